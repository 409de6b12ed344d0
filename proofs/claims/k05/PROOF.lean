import PyProof.Rows.All
import Wide.All
import OpenK.AllK
import Wide.FinOn
import HandS.ForMost
import HandS.Exc
import HandS.IsInst
import HandS.Codes
import HandS.Defaults
import HandS.Walk
import HandS.TupAny
import HandS.TupMul
import HandS.Style
import HandS.Flow
import HandS.Lambda
import HandS.ExcInit
import HandS.RaiseMore
import HandS.More
import PyProof.ReprRoads
import PyProof.ReprLen
import HandS.HeadEnd
import HandS.HeadHook1
import HandS.HeadHook2
import HandS.Head0
import HandS.Head1
import HandS.Head2
import KE.KExcSuper
import HandS.EndTab
import HandS.HeadHook4
import HandS.ExcField
import HandS.ExcIs
import KE.KSuper
import HandS.ClsMeth
import HandS.Property
import HandS.MakeKwOnly
import PyProof.InstNe
import HandS.Small
import KE.KStateDown
import Lean
import HandS.Base
import HandS.Call
import HandS.Ends
import HandS.Words
import HandS.WordsExc
import PySem.Challenge.RW_pathbits_k05_parts_and_tools
set_option Elab.async false
set_option linter.all false
set_option maxRecDepth 100000
set_option maxHeartbeats 4000000
namespace Pb
open PySem PySem.Spec PyProof.Rows L2

/-! ### room with the guards known -/
structure RoomG (b : Bool) (k : Nat) (A : Around) : Prop where
  rm : Room k A
  gd : b = true → A.guards = some []
theorem RoomG.sub {b b2 : Bool} {k : Nat} {A : Around} (r : RoomG b2 k A) (h : (!b || b2) = true) : RoomG b k A := ⟨r.rm, fun z => r.gd (by subst z; simpa using h)⟩
theorem roomG_of {k : Nat} {A : Around} (r : Room k A) : RoomG false k A := ⟨r, fun z => by cases z⟩
theorem RoomG.mono {b : Bool} {j k : Nat} {A : Around} (r : RoomG b k A) (h : j ≤ k) : RoomG b j A := ⟨r.rm.mono h, r.gd⟩
theorem guards_deeper {A : Around} {env : Env} : (A.deeper env).guards = A.guards := by
  first
    | rfl
    | (cases A with | mk a b c d e => cases d <;> first | rfl | simp [Around.deeper])
theorem RoomG.deeper {b : Bool} {k : Nat} {A : Around} (r : RoomG b (k + 1) A) (env : Env) : RoomG b k (A.deeper env) :=
  ⟨r.rm.deeper env, fun z => by rw [guards_deeper]; exact r.gd z⟩
theorem RoomG.make {b : Bool} {k : Nat} {A : Around} (r : RoomG b (k + 1) A) (C : Addr) (us : List Value) (kw : List (Str × Value)) :
    RoomG b k (A.under (.builtin "type.__call__" ⟨.ref C :: us, kw⟩)) :=
  ⟨r.rm.make C us kw, fun z => by
    have h := r.gd z
    first
      | exact h
      | (simpa [Around.under, Code.guards, Code.isGuard, pushGuards, guardIds] using h)⟩

/-- a def keeps its promise, wherever there is room and no guard stands -/
structure FnG (b : Bool) (P : Program) (w : World) (K : PySem.W.Frag) (mg : Str → Option Value) (base : Heap) (CX : CXT) (k : Nat) (f : Addr) (fd : FuncData) (ps : List Str) (sp : Sp) : Prop where
  len : ∀ vs H Q E, sp vs H Q E → vs.length = ps.length
  run : ∀ (A : Around) (outer : List Env) (s : Shared) (H : Hp) (args : Args) (us : List Value) (vs : List V) (Q : VK) (E : XK), RoomG b k A →
    Env0 P w K mg base A outer s H → BindsTo s fd args (ps.zip us) → Vals vs us → sp vs H Q E →
    codeAny (model P w) A (.call (.ref f) args) (CR CX outer P w H s Q E) s
theorem FnG.mono {b : Bool} {P : Program} {w : World} {K : PySem.W.Frag} {mg : Str → Option Value} {base : Heap} {CX : CXT} {j k : Nat} {f : Addr} {fd : FuncData} {ps : List Str} {sp : Sp}
    (F : FnG b P w K mg base CX j f fd ps sp) (h : j ≤ k) : FnG b P w K mg base CX k f fd ps sp :=
  ⟨F.len, fun A outer s H args us vs Q E hr => F.run A outer s H args us vs Q E (hr.mono h)⟩

/-- a def of the text, by its body -/
theorem fnG_of {b : Bool} {CX : CXT} {P : Program} {w : World} {K : PySem.W.Frag} {mg : Str → Option Value} {base : Heap} {k : Nat} {f : Addr} {name qual : Str} {params : Arguments} {body : List Stmt}
    {scope : Scope} {dV kV doc pm cdv ct oc : Value} {an od : Option Addr} {osl : Array (Option Value)} {N ps : List Str} {sp : Sp}
    (lk : K.lookup f = some ⟨oc, od, .func (PySem.W.fnOf name qual params body scope dV kV doc pm an cdv ct), osl⟩) (hcd : PySem.W.codeIn K cdv qual = true) (S : FnScope N ps scope)
    (len : ∀ vs H Q E, sp vs H Q E → vs.length = ps.length)
    (hbody : ∀ (A : Around) (outer : List Env) (s : Shared) (H : Hp) (vs : List V) (Q : VK) (E : XK),
      RoomG b k (A.deeper (envOfC qual scope s.heap.objs.size f cdv)) → sp vs H Q E →
      ∃ t, PSs (cxOf CX P w K mg base N qual scope f cdv A outer s H E) body t ∧ t { nx := fun _ H' => Q .non H', rt := Q } (start N vs) H) :
    FnG b P w K mg base CX (k + 1) f (PySem.W.fnOf name qual params body scope dV kV doc pm an cdv ct) ps sp := by
  constructor
  · exact len
  intro A outer s H args us vs Q E hr e0 hb r hsp
  have hlen := len _ _ _ _ hsp
  have hin : K.In s.heap := e0.mod.kin.keeps fun b o e => (e0.bs b o e).1
  have hlim : s.heap.NoLimit := e0.mod.nolimit.keeps fun b o e => (e0.bs b o e).1
  have hkd : ∀ y ∈ ps.zip us, scope.names.lookup y.1 = some .local ∨
      (scope.names.lookup y.1 = some .cell ∧ ((cellsFrom (s.heap.objs.size + 1) scope.names []).lookup y.1).isSome = true) := by
    rintro ⟨n, v⟩ hy
    rcases S.par n (List.of_mem_zip hy).1 with q | q
    · left; exact q
    · right; exact ⟨q, PySem.W.cellsFrom_some _ _ _ (.inl q)⟩
  refine codeAny_call_function hr.rm.depth (hin _ _ lk) rfl S.co S.gen rfl (PySem.W.codeRec_of hin hcd) (hb _ _ _ _ ?_)
  refine wpAny_newFunctionEnv_cells S.kind hkd ?_
  intro env he s1 x
  subst he
  refine ⟨hlim.keeps x.toInCall.keep, codeAny_func ?_⟩
  obtain ⟨t, ht, hq⟩ := hbody A outer s H vs Q E (hr.deeper _) hsp
  have I := inv_start (CX := CX) (E := E) S hr.rm.hd e0 hlen r x
  refine wpAny_mono (ht.run [] s1 (start N vs) H _ I hq) ?_ ?_
  · intro fl s' hs
    cases fl with
    | ret u =>
      obtain ⟨v, σ', H', J, rv, q⟩ := hs
      exact ⟨v, H', J.os, J.bare, J.base, J.hok, rv, q⟩
    | next =>
      obtain ⟨σ', H', J, q⟩ := hs
      exact ⟨V.non, H', J.os, J.bare, J.base, J.hok, rfl, q⟩
    | brk =>
      obtain ⟨_, _, _, q⟩ := hs
      exact q.elim
    | cont =>
      obtain ⟨_, _, _, q⟩ := hs
      exact q.elim
  · intro e s' hs
    exact hs

/-! ### a call by values of a def -/
section
variable {X : Cx} {CX : CXT} {k : Nat} {f C : Addr} {fd : FuncData} {ps : List Str} {sp : Sp} {dvs : List V} {ds : List Value} {E : XK}
theorem FnG.callR {b : Bool} (F : FnG b X.prog X.w X.K X.mg X.base CX k f fd ps sp) (hr : RoomG b k X.A) (hb : Binds X.K fd ps ds) (hd : Vals dvs ds) (hx : Passes CX X E) :
    CallR X (.ref f) (fun vs H Q => sp (vs ++ dvs) H Q E) := by
  intro pins s σ H vs us Q I r h
  have r2 : Vals (vs ++ dvs) (us ++ ds) := r.append hd
  have hl : (us ++ ds).length = ps.length := by
    rw [← r2.length]
    exact F.len _ _ _ _ h
  refine wpAny_call (codeAny_mono (F.run X.A X.stack s H ⟨us, []⟩ (us ++ ds) (vs ++ dvs) Q E hr I.env0 (hb s us I.kIn hl) r2 h) ?_)
  intro r s' hq
  cases r with
  | error e => exact hx pins σ H s e s' I hq
  | ok fl =>
    cases fl with
    | ret u => exact I.after hq
    | next => exact hq.elim
    | brk => exact hq.elim
    | cont => exact hq.elim
variable {x : Str} {p pos : Pos} {e : Expr} {es : List Expr} {t : TA} {r : List V → Hp → VK → Prop}
/-- g(e, ..), g a name of the module that holds a kept object -/
theorem pe_callO (hc : CallR X (.ref f) r) (hm : X.mg x = some (.ref f)) (hk : PySem.W.keepIn X.K (.ref f) = true) (ha : PA X (e :: es) t) (hg : Gl X x := by rfl)
    (hdb : (x == ("__debug__" : Str)) = false := by decide) (he : starEach (e :: es) X.env = (false, eval e X.env) :: starEach es X.env := by rfl)
    (hpl : (backTo pos (starEach es X.env)).any (·.1) = false := by rfl) : PE X (.Call (.Name x p) (e :: es) [] pos) (tCB r t) := by
  constructor
  intro pins s σ H Q I h
  refine wpAny_Call_Name_kw (ld_glob I hg hm ?_ hdb)
  refine PySem.W.callWith_K (h₀ := X.base) I.ok.mod.kin hk (thn (ha.run pos pins s σ H _ I h) ?_) he hpl
  rintro us s1 ⟨vs, H1, I1, r, q⟩
  exact ⟨I1.kIn, hc pins s1 σ H1 vs us Q I1 r q⟩
theorem pe_callO0 (hc : CallR X (.ref f) r) (hm : X.mg x = some (.ref f)) (hk : PySem.W.keepIn X.K (.ref f) = true) (hg : Gl X x := by rfl)
    (hdb : (x == ("__debug__" : Str)) = false := by decide) : PE X (.Call (.Name x p) [] [] pos) (tCB r tNil) := by
  constructor
  intro pins s σ H Q I h
  refine wpAny_Call_Name_kw (ld_glob I hg hm ?_ hdb)
  exact PySem.W.callWith_K0 I.kIn hk (hc pins s σ H [] [] Q I .nil h)
end
end Pb
namespace Pb
open PySem PySem.Spec PyProof.Rows L2

/-! ### a def of the text -/
abbrev Fd (K : PySem.W.Frag) (x qual : Str) (st : Stmt) (f : Addr) (fd : FuncData) : Prop := FunD K x qual (defArgs st) (defBody st) (defScope st) [] [] f fd
section
variable {P : Program} {w : World} {K : PySem.W.Frag} {mg : Str → Option Value} {base : Heap} {x qual : Str} {params : Arguments} {body : List Stmt} {scope : Scope} {dvs : List V} {kws : List (Str × V)} {f : Addr} {fd : FuncData}
theorem okG {b : Bool} {CX : CXT} {N ps : List Str} {k : Nat} {sp : Sp} (F : FunD K x qual params body scope dvs kws f fd) (S : FnScope N ps scope) (len : ∀ vs H Q E, sp vs H Q E → vs.length = ps.length)
    (hbody : ∀ (cdv : Value) (A : Around) (outer : List Env) (s : Shared) (H : Hp) (vs : List V) (Q : VK) (E : XK),
      RoomG b k (A.deeper (envOfC qual scope s.heap.objs.size f cdv)) → sp vs H Q E →
      ∃ t, PSs (cxOf CX P w K mg base N qual scope f cdv A outer s H E) body t ∧ t { nx := fun _ H' => Q .non H', rt := Q } (start N vs) H) :
    FnG b P w K mg base CX (k + 1) f fd ps sp := by
  obtain ⟨oc, od, dV, kV, doc, pm, an, cdv, ct, osl, rfl, lk, hcd, _, _⟩ := F.ex
  exact fnG_of lk hcd S len fun A outer s H vs Q E hr hsp => hbody cdv A outer s H vs Q E hr hsp
/-- .. out of which nothing is raised -/
theorem okG0 {b : Bool} {N ps : List Str} {k : Nat} {sp : Sp} (F : FunD K x qual params body scope dvs kws f fd) (S : FnScope N ps scope) (len : ∀ vs H Q E, sp vs H Q E → vs.length = ps.length)
    (hbody : ∀ (cdv : Value) (A : Around) (outer : List Env) (s : Shared) (H : Hp) (vs : List V) (Q : VK) (E : XK),
      RoomG b k (A.deeper (envOfC qual scope s.heap.objs.size f cdv)) → sp vs H Q E →
      ∃ t, PSs (cxOf CX0 P w K mg base N qual scope f cdv A outer s H E).nox body t ∧ t { nx := fun _ H' => Q .non H', rt := Q } (start N vs) H) :
    FnG b P w K mg base CX0 (k + 1) f fd ps sp := by
  refine okG F S len fun cdv A outer s H vs Q E hr hsp => ?_
  obtain ⟨t, h, q⟩ := hbody cdv A outer s H vs Q E hr hsp
  exact ⟨t, h.nox, q⟩
end
/-- a global name x that holds a def with the promise sp -/
structure Cal (b : Bool) (P : Program) (w : World) (K : PySem.W.Frag) (mg : Str → Option Value) (base : Heap) (CX : CXT) (k : Nat) (st : Stmt) (x : Str) (ps : List Str) (sp : Sp) : Prop where
  ex : ∃ f fd, mg x = some (.ref f) ∧ Fd K x x st f fd ∧ Binds K fd ps [] ∧ FnG b P w K mg base CX k f fd ps sp
/-- how the arguments are bound: positional values us, values ws of keywords named ks; the parameters' order by g -/
def Bnd (x qual : Str) (st : Stmt) (ps ks : List Str) (n : Nat) (g : {α : Type} → List α → List α → List α) : Prop :=
  ∀ (kV doc pm : Value) (an : Option Addr) (cdv ct : Value) (us ws : List Value), us.length = n → ws.length = ks.length →
    bindArgs (PySem.W.fnOf x qual (defArgs st) (defBody st) (defScope st) .none kV doc pm an cdv ct) ⟨us, ks.zip ws⟩ = pure (ps.zip (g us ws))
section
variable {X : Cx} {CX : CXT} {j k n : Nat} {st : Stmt} {f : Addr} {fd : FuncData} {ps ks : List Str} {sp : Sp} {E : XK} {x qual : Str} {p pos : Pos} {e : Expr} {es : List Expr} {kws : List Keyword} {t tk : TA}
/-- x(e, ..) -/
theorem pe_cal {b b2 : Bool} (c : Cal b X.prog X.w X.K X.mg X.base CX k st x ps sp) (hr : RoomG b2 j X.A) (hx : Passes CX X E) (ha : PA X (e :: es) t) (hk : k ≤ j := by decide) (hbb : (!b || b2) = true := by rfl) (hg : Gl X x := by rfl)
    (hdb : (x == ("__debug__" : Str)) = false := by decide) (he : starEach (e :: es) X.env = (false, eval e X.env) :: starEach es X.env := by rfl)
    (hpl : (backTo pos (starEach es X.env)).any (·.1) = false := by rfl) :
    PE X (.Call (.Name x p) (e :: es) [] pos) (tCB (fun vs H Q => sp vs H Q E) t) := by
  obtain ⟨f, fd, hm, F, hb, G⟩ := c.ex
  have hc := G.callR (RoomG.sub (hr.mono hk) hbb) hb .nil hx
  simp only [List.append_nil] at hc
  exact pe_callO hc hm F.kp ha hg hdb he hpl
theorem pe_cal0 {b b2 : Bool} (c : Cal b X.prog X.w X.K X.mg X.base CX k st x ps sp) (hr : RoomG b2 j X.A) (hx : Passes CX X E) (hk : k ≤ j := by decide) (hbb : (!b || b2) = true := by rfl) (hg : Gl X x := by rfl)
    (hdb : (x == ("__debug__" : Str)) = false := by decide) : PE X (.Call (.Name x p) [] [] pos) (tCB (fun vs H Q => sp vs H Q E) tNil) := by
  obtain ⟨f, fd, hm, F, hb, G⟩ := c.ex
  have hc := G.callR (RoomG.sub (hr.mono hk) hbb) hb .nil hx
  simp only [List.append_nil] at hc
  exact pe_callO0 hc hm F.kp hg hdb
theorem FnG.runK {b : Bool} {pins : List (Addr × Obj)} {σ : L2.St} {H : Hp} {s : Shared} {Q : VK} {us ws zs : List Value} {vs : List V} {kw : List (Str × Value)} (F : FnG b X.prog X.w X.K X.mg X.base CX k f fd ps sp)
    (hr : RoomG b k X.A) (hx : Passes CX X E) (hb : BindsTo s fd ⟨us, kw⟩ (ps.zip zs)) (I : Inv X pins σ H s) (r : Vals vs zs) (h : sp vs H Q E) :
    wpAny (model X.prog X.w) X.A (call (.ref f) us kw) (EP X pins σ Q) X.xe s := by
  refine wpAny_call (codeAny_mono (F.run X.A X.stack s H ⟨us, kw⟩ zs vs Q E hr I.env0 hb r h) ?_)
  intro r s' hq
  cases r with
  | error e => exact hx pins σ H s e s' I hq
  | ok fl =>
    cases fl with
    | ret u => exact I.after hq
    | next => exact hq.elim
    | brk => exact hq.elim
    | cont => exact hq.elim
/-- the reading of a call with keywords -/
def tCK (g : {α : Type} → List α → List α → List α) (n m : Nat) (r : List V → Hp → VK → Prop) (t tk : TA) : TE := fun σ H Q => t σ H fun vs H1 => tk σ H1 fun zs H2 => (vs.length = n ∧ zs.length = m) ∧ r (g vs zs) H2 Q
theorem Fd.bnd {K : PySem.W.Frag} {g : {α : Type} → List α → List α → List α} (F : Fd K x qual st f fd) (hb : Bnd x qual st ps ks n g) {s : Shared} {us ws : List Value} (h1 : us.length = n) (h2 : ws.length = ks.length) :
    BindsTo s fd ⟨us, ks.zip ws⟩ (ps.zip (g us ws)) := by
  obtain ⟨oc, od, dV, kV, doc, pm, an, cdv, ct, osl, rfl, lk, hcd, hD, hK⟩ := F.ex
  rcases hD with ⟨_, rfl⟩ | ⟨e, _⟩
  · exact .of_eq (hb kV doc pm an cdv ct us ws h1 h2)
  · exact absurd rfl e
/-- x(e, .., k = v, ..) -/
theorem pe_calK {g : {α : Type} → List α → List α → List α} {b b2 : Bool} (c : Cal b X.prog X.w X.K X.mg X.base CX k st x ps sp) (hr : RoomG b2 j X.A) (hx : Passes CX X E)
    (hb : Bnd x x st ps ks n g) (hrel : ∀ {vs zs : List V} {us ws : List Value}, Vals vs us → Vals zs ws → Vals (g vs zs) (g us ws)) (ha : PA X (e :: es) t) (hkw : PK X kws tk) (hk : k ≤ j := by decide) (hbb : (!b || b2) = true := by rfl) (hg : Gl X x := by rfl)
    (hall : (backToKw pos (keywordEach kws X.env)).all (·.1.isSome) = true := by rfl) (hks : (backToKw pos (keywordEach kws X.env)).filterMap (·.1) = ks := by rfl)
    (hdb : (x == ("__debug__" : Str)) = false := by decide) (he : starEach (e :: es) X.env = (false, eval e X.env) :: starEach es X.env := by rfl)
    (hpl : ((backTo pos (starEach (e :: es) X.env)).any (·.1) || (backToKw pos (keywordEach kws X.env)).any (·.1.isNone)) = false := by rfl) :
    PE X (.Call (.Name x p) (e :: es) kws pos) (tCK g n ks.length (fun vs H Q => sp vs H Q E) t tk) := by
  obtain ⟨f, fd, hm, F, _, G⟩ := c.ex
  constructor
  intro pins s σ H Q I h
  refine wpAny_Call_Name_kw (ld_glob I hg hm ?_ hdb)
  refine PySem.W.callWith_KW (h₀ := X.base) I.ok.mod.kin F.kp hall (thn (ha.run pos pins s σ H _ I h) ?_) hpl he
  rintro us s1 ⟨vs, H1, I1, r, q⟩
  refine thn (hkw.run pos pins s1 σ H1 _ I1 q) ?_
  rintro ws s2 ⟨zs, H2, I2, rz, ⟨l1, l2⟩, q2⟩
  refine ⟨I2.kIn, ?_⟩
  rw [hks]
  exact G.runK (us := us) (ws := ws) (RoomG.sub (hr.mono hk) hbb) hx (F.bnd hb (r.length.symm.trans l1) (rz.length.symm.trans l2)) I2 (hrel r rz) q2
theorem pe_calK0 {g : {α : Type} → List α → List α → List α} {b b2 : Bool} (c : Cal b X.prog X.w X.K X.mg X.base CX k st x ps sp) (hr : RoomG b2 j X.A) (hx : Passes CX X E)
    (hb : Bnd x x st ps ks 0 g) (hrel : ∀ {vs zs : List V} {us ws : List Value}, Vals vs us → Vals zs ws → Vals (g vs zs) (g us ws)) (hkw : PK X kws tk) (hk : k ≤ j := by decide) (hbb : (!b || b2) = true := by rfl) (hg : Gl X x := by rfl)
    (hall : (backToKw pos (keywordEach kws X.env)).all (·.1.isSome) = true := by rfl) (hks : (backToKw pos (keywordEach kws X.env)).filterMap (·.1) = ks := by rfl)
    (hdb : (x == ("__debug__" : Str)) = false := by decide)
    (hpl : ((backTo pos (starEach [] X.env)).any (·.1) || (backToKw pos (keywordEach kws X.env)).any (·.1.isNone)) = false := by rfl) :
    PE X (.Call (.Name x p) [] kws pos) (tCK g 0 ks.length (fun vs H Q => sp vs H Q E) tNil tk) := by
  obtain ⟨f, fd, hm, F, _, G⟩ := c.ex
  constructor
  intro pins s σ H Q I h
  refine wpAny_Call_Name_kw (ld_glob I hg hm ?_ hdb)
  refine PySem.W.callWith_KW0 (h₀ := X.base) I.ok.mod.kin F.kp hall (thn (hkw.run pos pins s σ H _ I h) ?_) hpl
  rintro ws s2 ⟨zs, H2, I2, rz, ⟨l1, l2⟩, q2⟩
  refine ⟨I2.kIn, ?_⟩
  rw [hks]
  exact G.runK (us := []) (ws := ws) (RoomG.sub (hr.mono hk) hbb) hx (F.bnd hb rfl (rz.length.symm.trans l2)) I2 (hrel .nil rz) q2
end
/-- the keywords stand behind the positional values -/
abbrev gApp : {α : Type} → List α → List α → List α := fun us ws => us ++ ws
theorem rel_app {vs zs : List V} {us ws : List Value} (h1 : Vals vs us) (h2 : Vals zs ws) : Vals (gApp vs zs) (gApp us ws) := h1.append h2

/-! ### walked things, several kinds -/
theorem PI.or {X : Cx} {tg it : Expr} {w1 w2 : TI} (h1 : PI X tg it w1) (h2 : PI X tg it w2) : PI X tg it (fun σ H R => w1 σ H R ∨ w2 σ H R) := by
  constructor
  intro pins s σ H R I h
  rcases h with h | h
  · exact h1.run pins s σ H R I h
  · exact h2.run pins s σ H R I h
/-- a list, a tuple or a text, by its value -/
def iSeq (K : PySem.W.Frag) (te : TE) : TI := fun σ H R => iList K te σ H R ∨ iTup K te σ H R ∨ iStr te σ H R
theorem pi_seq {X : Cx} {tg l : Expr} {te : TE} (h : PE X l te) : PI X tg l (iSeq X.K te) := PI.or (pi_list h) (PI.or (pi_tup h) (pi_str h))
end Pb
namespace Pb
open PySem PySem.Spec PyProof.Rows L2

/-! ### data, without addresses; rf i is the i-th cell: an object that may change -/
inductive Dt where
  | non
  | bl (b : Bool)
  | int (i : Int)
  | str (x : Str)
  | lst (xs : List Dt)
  | tup (xs : List Dt)
  | dic (ks : List Key) (ds : List Dt)
  | obj (c : Str) (ns : List Str) (ds : List Dt)
  | err (c : Str) (ns : List Str) (ds : List Dt)
  | pen
  | cls (c : Str)
  | rf (i : Nat)
/-- where the cells lie, and what is being made and in no cell yet -/
structure Ly where
  m : List Addr := []
  ap : List Addr := []
/-- what stands fixed: the written part, the module's names, where the pen lies; y: the cells -/
structure Wc where
  K : PySem.W.Frag
  mg : Str → Option Value
  a : Addr
  l : Addr
  ns : List Int
  T : List (Addr × Str)
  er : Option (Addr × Addr × Addr) := none
  y : Ly := {}
/-- what no data may hold -/
def Wc.av (c : Wc) : Addr → Prop := fun p => p = c.a ∨ p ∈ c.y.m ∨ p ∈ c.y.ap
/-- a tuple: one that is not of av, or one of the written part -/
def TupAt (K : PySem.W.Frag) (av : Addr → Prop) (H : Hp) (p : Addr) (vs : List V) : Prop := (¬ av p ∧ Rd H p (.tup vs)) ∨
  ∃ (o : Obj) (its : Array Value) (n : Nat), K.lookup p = some o ∧ o.cls = .type "tuple" ∧ o.data = .seq its n ∧ its.size ≤ sizeLine ∧ Vals vs its.toList
theorem TupAt.sq {K : PySem.W.Frag} {av : Addr → Prop} {H : Hp} {p : Addr} {vs : List V} (h : TupAt K av H p vs) : SqT K H p vs := by
  rcases h with ⟨_, h⟩ | h
  · exact .inl h
  · exact .inr h
/-- an own error of the class at C with these fields: the one that is held (er tells it, its class and its dict), or one that is a value -/
def ErAt (c : Wc) (av : Addr → Prop) (H : Hp) (p C : Addr) (fs : List (Str × V)) : Prop := (∃ dd, c.er = some (p, C, dd) ∧ ¬ av dd ∧ H dd = some (.xd fs)) ∨
  ∃ dd, ¬ av p ∧ ¬ av dd ∧ H p = some (exo p C (some dd)) ∧ H dd = some (exd dd fs)
mutual
/-- a value is this data; no object of it is one of av -/
inductive Da (c : Wc) (av : Addr → Prop) (H : Hp) : V → Dt → Prop
  | non : Da c av H .non .non
  | bl (b : Bool) : Da c av H (.bl b) (.bl b)
  | int (i : Int) : Da c av H (.int i) (.int i)
  | str (x : Str) : Da c av H (.str x) (.str x)
  | lst {p : Addr} {vs : List V} {ds : List Dt} : ¬ av p → H p = some (.lst vs) → DaAll c av H vs ds → Da c av H (.ref p) (.lst ds)
  | tup {p : Addr} {vs : List V} {ds : List Dt} : TupAt c.K av H p vs → DaAll c av H vs ds → Da c av H (.ref p) (.tup ds)
  | dic {p : Addr} {kvs : List (Key × V)} {ks : List Key} {ds : List Dt} : ¬ av p → H p = some (.dK kvs) → kvs.map (·.1) = ks → DaAll c av H (kvs.map (·.2)) ds → Da c av H (.ref p) (.dic ks ds)
  | obj {p C dx : Addr} {cn : Str} {fs : List (Str × V)} {ns : List Str} {ds : List Dt} : ¬ av p → c.mg cn = some (.ref C) → H p = some (.ins C dx fs) → fs.map (·.1) = ns → DaAll c av H (fs.map (·.2)) ds → Da c av H (.ref p) (.obj cn ns ds)
  | err {p C : Addr} {cn : Str} {fs : List (Str × V)} {ns : List Str} {ds : List Dt} : ErAt c av H p C fs → c.mg cn = some (.ref C) → fs.map (·.1) = ns → DaAll c av H (fs.map (·.2)) ds → Da c av H (.ref p) (.err cn ns ds)
  | pen : Da c av H (.ref c.a) .pen
  | cls {C : Addr} {cn : Str} : c.mg cn = some (.ref C) → Da c av H (.ref C) (.cls cn)
  | rf {i : Nat} {p : Addr} : c.y.m[i]? = some p → Da c av H (.ref p) (.rf i)
inductive DaAll (c : Wc) (av : Addr → Prop) (H : Hp) : List V → List Dt → Prop
  | nil : DaAll c av H [] []
  | cons {v : V} {d : Dt} {vs : List V} {ds : List Dt} : Da c av H v d → DaAll c av H vs ds → DaAll c av H (v :: vs) (d :: ds)
end
/-- a table of code objects -/
def isT : HO → Bool
  | .tbl _ => true
  | _ => false
/-- what is not of av, and no table, stays -/
def Kp (av : Addr → Prop) (H H' : Hp) : Prop := ∀ b o, ¬ av b → H b = some o → isT o = false → H' b = some o
/-- nothing but a table, if anything, stands there -/
def Fr (H : Hp) (p : Addr) : Prop := ∀ o, H p = some o → isT o = true
theorem fr_none {H : Hp} {p : Addr} (h : H p = none) : Fr H p := fun o e => by rw [h] at e; cases e
theorem Fr.no {H : Hp} {p : Addr} {o : HO} (h : Fr H p) (e : H p = some o) (t : isT o = false) : False := by rw [h o e] at t; cases t
theorem Kp.refl (av : Addr → Prop) (H : Hp) : Kp av H H := fun _ _ _ h _ => h
theorem Kp.trans {av : Addr → Prop} {H H1 H2 : Hp} (x : Kp av H H1) (y : Kp av H1 H2) : Kp av H H2 := fun b o hb h t => y b o hb (x b o hb h t) t
theorem Kp.more {av av' : Addr → Prop} {H H' : Hp} (x : Kp av H H') (k : ∀ p, av p → av' p) : Kp av' H H' := fun b o hb h t => x b o (fun z => hb (k _ z)) h t
theorem same_kp {av : Addr → Prop} {H H' : Hp} (x : Same H H') : Kp av H H' := fun b o _ h _ => x b o h
theorem same_new {H : Hp} {p : Addr} {o : HO} (h : H p = none) : Same H (upd H p o) := fun a u e => by
  rw [upd_ne (ne_of_none e h)]; exact e
theorem TupAt.keep {K : PySem.W.Frag} {av : Addr → Prop} {H H' : Hp} {p : Addr} {vs : List V} (k : Kp av H H') (h : TupAt K av H p vs) : TupAt K av H' p vs := by
  rcases h with ⟨h1, h2 | ⟨o, h2⟩⟩ | h
  · exact .inl ⟨h1, .inl (k _ _ h1 h2 rfl)⟩
  · exact .inl ⟨h1, .inr ⟨o, k _ _ h1 h2 rfl⟩⟩
  · exact .inr h
theorem ErAt.keep {c : Wc} {av : Addr → Prop} {H H' : Hp} {p C : Addr} {fs : List (Str × V)} (k : Kp av H H') (h : ErAt c av H p C fs) : ErAt c av H' p C fs := by
  rcases h with ⟨dd, h1, h2, h3⟩ | ⟨dd, h1, h2, h3, h4⟩
  · exact .inl ⟨dd, h1, h2, k _ _ h2 h3 rfl⟩
  · exact .inr ⟨dd, h1, h2, k _ _ h1 h3 rfl, k _ _ h2 h4 rfl⟩
theorem TupAt.widen {K : PySem.W.Frag} {av av' : Addr → Prop} {H : Hp} {p : Addr} {vs : List V} (k : ∀ p, av' p → av p ∨ Fr H p) (h : TupAt K av H p vs) : TupAt K av' H p vs := by
  rcases h with ⟨h1, h2⟩ | h
  · refine .inl ⟨fun z => (k p z).elim h1 fun e => ?_, h2⟩
    rcases h2 with h2 | ⟨o, h2⟩
    · exact e.no h2 rfl
    · exact e.no h2 rfl
  · exact .inr h
theorem ErAt.widen {c : Wc} {av av' : Addr → Prop} {H : Hp} {p C : Addr} {fs : List (Str × V)} (k : ∀ p, av' p → av p ∨ Fr H p) (h : ErAt c av H p C fs) : ErAt c av' H p C fs := by
  rcases h with ⟨dd, h1, h2, h3⟩ | ⟨dd, h1, h2, h3, h4⟩
  · exact .inl ⟨dd, h1, fun z => (k _ z).elim h2 fun e => e.no h3 rfl, h3⟩
  · exact .inr ⟨dd, fun z => (k _ z).elim h1 fun e => e.no h3 rfl, fun z => (k _ z).elim h2 fun e => e.no h4 rfl, h3, h4⟩
/-- two contexts that differ in their cells only: those of c1 are cells of c2 -/
structure Grow (c1 c2 : Wc) : Prop where
  K : c2.K = c1.K
  mg : c2.mg = c1.mg
  a : c2.a = c1.a
  er : c2.er = c1.er
  m : ∀ (i : Nat) (p : Addr), c1.y.m[i]? = some p → c2.y.m[i]? = some p
section
variable {c c' : Wc} {av av' : Addr → Prop} {H H' : Hp}

mutual
theorem Da.move (g : Grow c c') (w : ∀ p, av' p → av p ∨ Fr H p) (k : Kp av H H') : ∀ (d : Dt) (v : V), Da c av H v d → Da c' av' H' v d
  | .non, _, h => by cases h; exact .non
  | .bl _, _, h => by cases h; exact .bl _
  | .int _, _, h => by cases h; exact .int _
  | .str _, _, h => by cases h; exact .str _
  | .lst ds, _, h => by
    cases h with
    | lst h1 h2 h3 => exact .lst (fun z => (w _ z).elim h1 fun e => e.no h2 rfl) (k _ _ h1 h2 rfl) (DaAll.move g w k ds _ h3)
  | .tup ds, _, h => by
    cases h with
    | tup h2 h3 =>
      refine .tup ?_ (DaAll.move g w k ds _ h3)
      rw [g.K]
      rcases h2 with ⟨h1, h2 | ⟨o, h2⟩⟩ | h2
      · exact .inl ⟨fun z => (w _ z).elim h1 fun e => e.no h2 rfl, .inl (k _ _ h1 h2 rfl)⟩
      · exact .inl ⟨fun z => (w _ z).elim h1 fun e => e.no h2 rfl, .inr ⟨o, k _ _ h1 h2 rfl⟩⟩
      · exact .inr h2
  | .dic ks ds, _, h => by
    cases h with
    | dic h1 h2 h3 h4 => exact .dic (fun z => (w _ z).elim h1 fun e => e.no h2 rfl) (k _ _ h1 h2 rfl) h3 (DaAll.move g w k ds _ h4)
  | .obj cn ns ds, _, h => by
    cases h with
    | obj h1 h2 h3 h4 h5 => exact .obj (fun z => (w _ z).elim h1 fun e => e.no h3 rfl) (by rw [g.mg]; exact h2) (k _ _ h1 h3 rfl) h4 (DaAll.move g w k ds _ h5)
  | .err cn ns ds, _, h => by
    cases h with
    | err h1 h2 h3 h4 =>
      refine .err ?_ (by rw [g.mg]; exact h2) h3 (DaAll.move g w k ds _ h4)
      rcases h1 with ⟨dd, a1, a2, a3⟩ | ⟨dd, a1, a2, a3, a4⟩
      · exact .inl ⟨dd, by rw [g.er]; exact a1, fun z => (w _ z).elim a2 fun e => e.no a3 rfl, k _ _ a2 a3 rfl⟩
      · exact .inr ⟨dd, fun z => (w _ z).elim a1 fun e => e.no a3 rfl, fun z => (w _ z).elim a2 fun e => e.no a4 rfl, k _ _ a1 a3 rfl, k _ _ a2 a4 rfl⟩
  | .pen, _, h => by
    cases h
    rw [← g.a]
    exact .pen
  | .cls cn, _, h => by
    cases h with
    | cls h1 => exact .cls (by rw [g.mg]; exact h1)
  | .rf i, _, h => by
    cases h with
    | rf h1 => exact .rf (g.m _ _ h1)
theorem DaAll.move (g : Grow c c') (w : ∀ p, av' p → av p ∨ Fr H p) (k : Kp av H H') : ∀ (ds : List Dt) (vs : List V), DaAll c av H vs ds → DaAll c' av' H' vs ds
  | [], _, h => by cases h; exact .nil
  | d :: ds, _, h => by
    cases h with
    | cons h1 h2 => exact .cons (Da.move g w k d _ h1) (DaAll.move g w k ds _ h2)
end
theorem Grow.refl (c : Wc) : Grow c c := ⟨rfl, rfl, rfl, rfl, fun _ _ h => h⟩
theorem Da.keep (k : Kp av H H') (d : Dt) (v : V) (h : Da c av H v d) : Da c av H' v d := Da.move (Grow.refl c) (fun _ z => .inl z) k d v h
theorem DaAll.keep (k : Kp av H H') (ds : List Dt) (vs : List V) (h : DaAll c av H vs ds) : DaAll c av H' vs ds := DaAll.move (Grow.refl c) (fun _ z => .inl z) k ds vs h
theorem Da.less (k : ∀ p, av' p → av p) (d : Dt) (v : V) (h : Da c av H v d) : Da c av' H v d := Da.move (Grow.refl c) (fun _ z => .inl (k _ z)) (Kp.refl _ _) d v h
theorem DaAll.less (k : ∀ p, av' p → av p) (ds : List Dt) (vs : List V) (h : DaAll c av H vs ds) : DaAll c av' H vs ds := DaAll.move (Grow.refl c) (fun _ z => .inl (k _ z)) (Kp.refl _ _) ds vs h
theorem Da.widen (k : ∀ p, av' p → av p ∨ Fr H p) (d : Dt) (v : V) (h : Da c av H v d) : Da c av' H v d := Da.move (Grow.refl c) k (Kp.refl _ _) d v h
theorem DaAll.widen (k : ∀ p, av' p → av p ∨ Fr H p) (ds : List Dt) (vs : List V) (h : DaAll c av H vs ds) : DaAll c av' H vs ds := DaAll.move (Grow.refl c) k (Kp.refl _ _) ds vs h
end
theorem DaAll.length {c : Wc} {av : Addr → Prop} {H : Hp} : ∀ {vs : List V} {ds : List Dt}, DaAll c av H vs ds → vs.length = ds.length
  | _, _, .nil => rfl
  | _, _, .cons _ t => by rw [List.length_cons, List.length_cons, DaAll.length t]
theorem DaAll.append {c : Wc} {av : Addr → Prop} {H : Hp} : ∀ {vs ws : List V} {ds es : List Dt}, DaAll c av H vs ds → DaAll c av H ws es → DaAll c av H (vs ++ ws) (ds ++ es)
  | _, _, _, _, .nil, h => h
  | _, _, _, _, .cons h1 h2, h => .cons h1 (DaAll.append h2 h)
theorem DaAll.get {c : Wc} {av : Addr → Prop} {H : Hp} : ∀ {vs : List V} {ds : List Dt} {i : Nat} {d : Dt}, DaAll c av H vs ds → ds[i]? = some d → ∃ v, vs[i]? = some v ∧ Da c av H v d
  | _, _, 0, _, .cons h _, e => by
    rw [List.getElem?_cons_zero] at e
    cases e
    exact ⟨_, List.getElem?_cons_zero, h⟩
  | _, _, i + 1, _, .cons _ t, e => by
    rw [List.getElem?_cons_succ] at e
    obtain ⟨v, h1, h2⟩ := DaAll.get t e
    exact ⟨v, by rw [List.getElem?_cons_succ]; exact h1, h2⟩
  | _, _, _, _, .nil, e => by simp at e
theorem DaAll.get2 {c : Wc} {av : Addr → Prop} {H : Hp} : ∀ {vs : List V} {ds : List Dt} {i : Nat} {v : V}, DaAll c av H vs ds → vs[i]? = some v → ∃ d, ds[i]? = some d ∧ Da c av H v d
  | _, _, 0, _, .cons h _, e => by
    rw [List.getElem?_cons_zero] at e
    cases e
    exact ⟨_, List.getElem?_cons_zero, h⟩
  | _, _, i + 1, _, .cons _ t, e => by
    rw [List.getElem?_cons_succ] at e
    obtain ⟨d, h1, h2⟩ := DaAll.get2 t e
    exact ⟨d, by rw [List.getElem?_cons_succ]; exact h1, h2⟩
  | _, _, _, _, .nil, e => by simp at e
theorem DaAll.drop {c : Wc} {av : Addr → Prop} {H : Hp} : ∀ (m : Nat) {vs : List V} {ds : List Dt}, DaAll c av H vs ds → DaAll c av H (vs.drop m) (ds.drop m)
  | 0, _, _, h => h
  | _ + 1, _, _, .nil => .nil
  | m + 1, _, _, .cons _ t => DaAll.drop m t
theorem DaAll.take {c : Wc} {av : Addr → Prop} {H : Hp} : ∀ (m : Nat) {vs : List V} {ds : List Dt}, DaAll c av H vs ds → DaAll c av H (vs.take m) (ds.take m)
  | 0, _, _, _ => .nil
  | _ + 1, _, _, .nil => .nil
  | m + 1, _, _, .cons h t => .cons h (DaAll.take m t)
theorem DaAll.set {c : Wc} {av : Addr → Prop} {H : Hp} {v : V} {d : Dt} (hv : Da c av H v d) : ∀ (i : Nat) {vs : List V} {ds : List Dt}, DaAll c av H vs ds → DaAll c av H (vs.set i v) (ds.set i d)
  | _, _, _, .nil => .nil
  | 0, _, _, .cons _ t => .cons hv t
  | i + 1, _, _, .cons h t => .cons h (DaAll.set hv i t)
theorem DaAll.reverse {c : Wc} {av : Addr → Prop} {H : Hp} : ∀ {vs : List V} {ds : List Dt}, DaAll c av H vs ds → DaAll c av H vs.reverse ds.reverse
  | _, _, .nil => .nil
  | _, _, .cons h t => by
    rw [List.reverse_cons, List.reverse_cons]
    exact (DaAll.reverse t).append (.cons h .nil)
theorem DaAll.rep {c : Wc} {av : Addr → Prop} {H : Hp} {vs : List V} {ds : List Dt} (h : DaAll c av H vs ds) : ∀ m : Nat, DaAll c av H (List.replicate m vs).flatten (List.replicate m ds).flatten
  | 0 => .nil
  | m + 1 => by
    rw [List.replicate_succ, List.replicate_succ, List.flatten_cons, List.flatten_cons]
    exact h.append (DaAll.rep h m)
theorem DaAll.isEmpty {c : Wc} {av : Addr → Prop} {H : Hp} {vs : List V} {ds : List Dt} (h : DaAll c av H vs ds) : vs.isEmpty = ds.isEmpty := by cases h <;> rfl
theorem DaAll.strs {c : Wc} {av : Addr → Prop} {H : Hp} : ∀ {ys : List Str} {vs : List V}, DaAll c av H vs (ys.map Dt.str) → vs = ys.map V.str
  | [], _, h => by cases h; rfl
  | b :: bs, _, h => by
    cases h with
    | cons h1 h2 =>
      cases h1
      rw [DaAll.strs h2]
      rfl
theorem DaAll.ofStrs {c : Wc} {av : Addr → Prop} {H : Hp} : ∀ (ys : List Str), DaAll c av H (ys.map V.str) (ys.map Dt.str)
  | [] => .nil
  | y :: ys => .cons (.str y) (DaAll.ofStrs ys)
theorem DaAll.ofInts {c : Wc} {av : Addr → Prop} {H : Hp} : ∀ (ys : List Int), DaAll c av H (ys.map V.int) (ys.map Dt.int)
  | [] => .nil
  | y :: ys => .cons (.int y) (DaAll.ofInts ys)
theorem DaAll.bls {c : Wc} {av : Addr → Prop} {H : Hp} : ∀ {bs : List Bool} {vs : List V}, DaAll c av H vs (bs.map Dt.bl) → vs = bs.map V.bl
  | [], _, h => by cases h; rfl
  | b :: bs, _, h => by
    cases h with
    | cons h1 h2 =>
      cases h1
      rw [DaAll.bls h2]
      rfl
theorem DaAll.ints {c : Wc} {av : Addr → Prop} {H : Hp} : ∀ {ns : List Int} {vs : List V}, DaAll c av H vs (ns.map Dt.int) → vs = ns.map V.int
  | [], _, h => by cases h; rfl
  | b :: bs, _, h => by
    cases h with
    | cons h1 h2 =>
      cases h1
      rw [DaAll.ints h2]
      rfl
/-! ### the view of a value: an own thing may stand at its top -/
inductive Dv (c : Wc) (av : Addr → Prop) (H : Hp) : V → Dt → Prop
  | da {v : V} {d : Dt} : Da c av H v d → Dv c av H v d
  | lst {p : Addr} {vs : List V} {ds : List Dt} : H p = some (.lst vs) → DaAll c av H vs ds → Dv c av H (.ref p) (.lst ds)
  | dic {p : Addr} {kvs : List (Key × V)} {ks : List Key} {ds : List Dt} : H p = some (.dK kvs) → kvs.map (·.1) = ks → DaAll c av H (kvs.map (·.2)) ds → Dv c av H (.ref p) (.dic ks ds)
  | obj {p C dx : Addr} {cn : Str} {fs : List (Str × V)} {ns : List Str} {ds : List Dt} : c.mg cn = some (.ref C) → H p = some (.ins C dx fs) → fs.map (·.1) = ns → DaAll c av H (fs.map (·.2)) ds → Dv c av H (.ref p) (.obj cn ns ds)
/-- a view is data, if its top is not avoided -/
theorem Dv.free {c : Wc} {av : Addr → Prop} {H : Hp} {v : V} {d : Dt} (h : Dv c av H v d) : Da c (fun q => av q ∧ v ≠ .ref q) H v d := by
  have w : ∀ q, (av q ∧ v ≠ .ref q) → av q := fun q z => z.1
  cases h with
  | da h => exact h.less w
  | lst h1 h2 => exact .lst (fun z => z.2 rfl) h1 (h2.less w)
  | dic h1 h2 h3 => exact .dic (fun z => z.2 rfl) h1 h2 (h3.less w)
  | obj h1 h2 h3 h4 => exact .obj (fun z => z.2 rfl) h1 h2 h3 (h4.less w)
theorem Dv.isL {c : Wc} {av : Addr → Prop} {H : Hp} {v : V} {ds : List Dt} (h : Dv c av H v (.lst ds)) : ∃ p vs, v = .ref p ∧ H p = some (.lst vs) ∧ DaAll c av H vs ds := by
  cases h with
  | da h => cases h with | lst h1 h2 h3 => exact ⟨_, _, rfl, h2, h3⟩
  | lst h1 h2 => exact ⟨_, _, rfl, h1, h2⟩
theorem Dv.isD {c : Wc} {av : Addr → Prop} {H : Hp} {v : V} {ks : List Key} {ds : List Dt} (h : Dv c av H v (.dic ks ds)) : ∃ p kvs, v = .ref p ∧ H p = some (.dK kvs) ∧ kvs.map (·.1) = ks ∧ DaAll c av H (kvs.map (·.2)) ds := by
  cases h with
  | da h => cases h with | dic h1 h2 h3 h4 => exact ⟨_, _, rfl, h2, h3, h4⟩
  | dic h1 h2 h3 => exact ⟨_, _, rfl, h1, h2, h3⟩
theorem Dv.isO {c : Wc} {av : Addr → Prop} {H : Hp} {v : V} {cn : Str} {ns : List Str} {ds : List Dt} (h : Dv c av H v (.obj cn ns ds)) : ∃ p C dx fs, v = .ref p ∧ c.mg cn = some (.ref C) ∧ H p = some (.ins C dx fs) ∧ fs.map (·.1) = ns ∧ DaAll c av H (fs.map (·.2)) ds := by
  cases h with
  | da h => cases h with | obj h1 h2 h3 h4 h5 => exact ⟨_, _, _, _, rfl, h2, h3, h4, h5⟩
  | obj h1 h2 h3 h4 => exact ⟨_, _, _, _, rfl, h1, h2, h3, h4⟩
theorem Dv.isT {c : Wc} {av : Addr → Prop} {H : Hp} {v : V} {ds : List Dt} (h : Dv c av H v (.tup ds)) : ∃ p vs, v = .ref p ∧ TupAt c.K av H p vs ∧ DaAll c av H vs ds := by
  cases h with
  | da h => cases h with | tup h2 h3 => exact ⟨_, _, rfl, h2, h3⟩
end Pb
namespace Pb
open PySem PySem.Spec PyProof.Rows L2

/-! ### the pen, and what a body knows -/
def penLine : Nat := 4194304
/-- the pen at a, its numbers at l, is good for n draws more -/
def Pen (a l : Addr) (ns : List Int) (T : List (Addr × Str)) (n : Nat) (H : Hp) : Prop := ∃ (i r : Int), H a = some (.lst [.ref l, .int i, .int r]) ∧ H l = some (.lst (ns.map V.int)) ∧ l ≠ a ∧ ns.length ≤ 63 ∧ 0 ≤ i ∧ i + n ≤ (penLine : Int) ∧ LamX.Tabs T H
theorem Pen.same {a l : Addr} {ns : List Int} {T : List (Addr × Str)} {n : Nat} {H H' : Hp} (x : Same H H') (h : Pen a l ns T n H) : Pen a l ns T n H' := by
  obtain ⟨i, r, h1, h2, h3, h4, h5, h6, h7⟩ := h
  exact ⟨i, r, x _ _ h1, x _ _ h2, h3, h4, h5, h6, h7.ext x⟩
theorem Pen.less {a l : Addr} {ns : List Int} {T : List (Addr × Str)} {m n : Nat} {H : Hp} (h : Pen a l ns T n H) (hm : m ≤ n) : Pen a l ns T m H := by
  obtain ⟨i, r, h1, h2, h3, h4, h5, h6, h7⟩ := h
  exact ⟨i, r, h1, h2, h3, h4, h5, by omega, h7⟩
/-- an object that is no table and no code object changes: the tables stay -/
def isC : HO → Bool
  | .ext _ => true
  | _ => false
theorem Tabs.upd {T : List (Addr × Str)} {H : Hp} {p : Addr} {o u : HO} (h : LamX.Tabs T H) (hp : H p = some o) (ht : isT o = false) (hc : isC o = false) : LamX.Tabs T (upd H p u) := by
  intro q hq
  obtain ⟨ps, a1, a2, a3⟩ := h q hq
  refine ⟨ps, ?_, a2, fun pos cv hcv => ?_⟩
  · rw [upd_ne fun z => ?_]
    · exact a1
    · rw [z, hp] at a1
      cases a1
      cases ht
  · obtain ⟨x, e1, e2⟩ := a3 pos cv hcv
    refine ⟨x, e1, ?_⟩
    rw [upd_ne fun z => ?_]
    · exact e2
    · rw [z, hp] at e2
      unfold LamX.CodeO at e2
      cases e2
      cases hc
theorem Pen.upd {a l : Addr} {ns : List Int} {T : List (Addr × Str)} {n : Nat} {H : Hp} {p : Addr} {o u : HO} (h : Pen a l ns T n H) (ha : p ≠ a) (hl : p ≠ l) (hp : H p = some o) (ht : isT o = false) (hc : isC o = false) : Pen a l ns T n (upd H p u) := by
  obtain ⟨i, r, h1, h2, h3, h4, h5, h6, h7⟩ := h
  exact ⟨i, r, by rw [upd_ne ha.symm]; exact h1, by rw [upd_ne hl.symm]; exact h2, h3, h4, h5, h6, Tabs.upd h7 hp ht hc⟩
def Live (av : Addr → Prop) (H : Hp) : Prop := ∀ p, av p → ∃ o, H p = some o ∧ isT o = false
theorem Live.same {av : Addr → Prop} {H H' : Hp} (x : Same H H') (h : Live av H) : Live av H' := fun p hp => by
  obtain ⟨o, q, t⟩ := h p hp
  exact ⟨o, x p o q, t⟩
theorem Live.new {av : Addr → Prop} {H : Hp} {p : Addr} (h : Live av H) (hp : H p = none) : ¬ av p := fun z => by
  obtain ⟨o, q, _⟩ := h p z
  rw [hp] at q
  cases q
/-- new objects -/
theorem Da.newL {c : Wc} {av : Addr → Prop} {H : Hp} {p : Addr} {vs : List V} {ds : List Dt} (lv : Live av H) (hp : H p = none) (h : DaAll c av H vs ds) : Da c av (upd H p (.lst vs)) (.ref p) (.lst ds) :=
  .lst (lv.new hp) upd_same (h.keep (same_kp (same_new hp)))
theorem Da.newT {c : Wc} {av : Addr → Prop} {H : Hp} {p : Addr} {vs : List V} {ds : List Dt} (lv : Live av H) (hp : H p = none) (h : DaAll c av H vs ds) : Da c av (upd H p (.tup vs)) (.ref p) (.tup ds) :=
  .tup (.inl ⟨lv.new hp, .inl upd_same⟩) (h.keep (same_kp (same_new hp)))
/-- what a slot holds -/
inductive Sl where
  | un
  | da (d : Dt)
/-! ### own things -/
/-- the parts of a list, a dict, an object -/
def Dt.kids : Dt → List Dt
  | .lst ds => ds
  | .dic _ ds => ds
  | .obj _ _ ds => ds
  | _ => []
/-- the object o is, with the values vs, such a list, dict or object -/
def OwO (c : Wc) (o : HO) (vs : List V) : Dt → Prop
  | .lst _ => o = .lst vs
  | .dic ks _ => ∃ kvs : List (Key × V), o = .dK kvs ∧ kvs.map (·.1) = ks ∧ kvs.map (·.2) = vs
  | .obj cn ns _ => ∃ (C dx : Addr) (fs : List (Str × V)), c.mg cn = some (.ref C) ∧ o = .ins C dx fs ∧ fs.map (·.1) = ns ∧ fs.map (·.2) = vs
  | _ => False
def OwH (c : Wc) (H : Hp) (p : Addr) (d : Dt) (vs : List V) : Prop := ∃ o, H p = some o ∧ isT o = false ∧ isC o = false ∧ OwO c o vs d
theorem OwH.to {c : Wc} {H H' : Hp} {p : Addr} {d : Dt} {vs : List V} (h : OwH c H p d vs) (k : ∀ o, H p = some o → isT o = false → H' p = some o) : OwH c H' p d vs := by
  obtain ⟨o, h1, h2, h3, h4⟩ := h
  exact ⟨o, k o h1 h2, h2, h3, h4⟩
theorem OwH.lst {c : Wc} {H : Hp} {p : Addr} {ds : List Dt} {vs : List V} (h : H p = some (.lst vs)) : OwH c H p (.lst ds) vs := ⟨_, h, rfl, rfl, rfl⟩
theorem OwH.isL {c : Wc} {H : Hp} {p : Addr} {ds : List Dt} {vs : List V} (h : OwH c H p (.lst ds) vs) : H p = some (.lst vs) := by
  obtain ⟨o, h1, _, _, h4⟩ := h
  cases (show o = .lst vs from h4)
  exact h1
theorem OwH.ctx {c c' : Wc} {H : Hp} {p : Addr} {d : Dt} {vs : List V} (g : c'.mg = c.mg) (h : OwH c H p d vs) : OwH c' H p d vs := by
  obtain ⟨o, h1, h2, h3, h4⟩ := h
  refine ⟨o, h1, h2, h3, ?_⟩
  cases d <;> first | exact h4 | skip
  obtain ⟨C, dx, fs, e0, e1⟩ := h4
  exact ⟨C, dx, fs, by rw [g]; exact e0, e1⟩
theorem OwH.dv {c : Wc} {av : Addr → Prop} {H : Hp} {p : Addr} {d : Dt} {vs : List V} (h : OwH c H p d vs) (da : DaAll c av H vs d.kids) : Dv c av H (.ref p) d := by
  obtain ⟨o, h1, h2, h3, h4⟩ := h
  cases d with
  | lst ds =>
    cases (show o = .lst vs from h4)
    exact .lst h1 da
  | dic ks ds =>
    obtain ⟨kvs, rfl, e1, e2⟩ := (show ∃ kvs : List (Key × V), o = .dK kvs ∧ kvs.map (·.1) = ks ∧ kvs.map (·.2) = vs from h4)
    exact .dic h1 e1 (e2 ▸ da)
  | obj cn ns ds =>
    obtain ⟨C, dx, fs, e0, rfl, e1, e2⟩ := (show ∃ (C dx : Addr) (fs : List (Str × V)), c.mg cn = some (.ref C) ∧ o = .ins C dx fs ∧ fs.map (·.1) = ns ∧ fs.map (·.2) = vs from h4)
    exact .obj e0 h1 e1 (e2 ▸ da)
  | _ => exact h4.elim
/-! ### the evaluation's state, and how it stands in the heap -/
/-- the draws that are left, the cells -/
structure Cs where
  n : Nat
  s : List Dt
structure Lay (c : Wc) (n : Cs) (H : Hp) : Prop where
  pen : Pen c.a c.l c.ns c.T n.n H
  pl : ¬ c.av c.l
  len : n.s.length = c.y.m.length
  nd : c.y.m.Nodup
  na : c.a ∉ c.y.m ∧ c.a ∉ c.y.ap
  dj : ∀ p ∈ c.y.ap, p ∉ c.y.m
  lv : ∀ p ∈ c.y.ap, ∃ o, H p = some o ∧ isT o = false ∧ isC o = false
  cel : ∀ (i : Nat) (d : Dt) (p : Addr), n.s[i]? = some d → c.y.m[i]? = some p → ∃ vs, OwH c H p d vs ∧ DaAll c c.av H vs d.kids
/-- from H, laid by y, to H', laid by y' -/
structure Sx (a : Addr) (y : Ly) (H : Hp) (y' : Ly) (H' : Hp) : Prop where
  m : y.m <+: y'.m
  ap : ∀ p ∈ y'.ap, p ∈ y.ap ∨ Fr H p
  nw : ∀ p ∈ y'.m, p ∈ y.m ∨ Fr H p
  st : ∀ b o, b ≠ a → b ∉ y.m → H b = some o → isT o = false → H' b = some o
theorem Sx.refl {a : Addr} {y : Ly} {H : Hp} : Sx a y H y H := ⟨List.prefix_refl _, fun _ h => .inl h, fun _ h => .inl h, fun _ _ _ _ h _ => h⟩
theorem Sx.same {a : Addr} {y : Ly} {H H' : Hp} (x : Same H H') : Sx a y H y H' := ⟨List.prefix_refl _, fun _ h => .inl h, fun _ h => .inl h, fun b o _ _ h _ => x b o h⟩
theorem pre_get {α : Type} {l l' : List α} (h : l <+: l') {i : Nat} {x : α} (e : l[i]? = some x) : l'[i]? = some x := by
  obtain ⟨t, rfl⟩ := h
  rw [List.getElem?_append_left (List.getElem?_eq_some_iff.mp e).1]
  exact e
theorem pre_mem {α : Type} {l l' : List α} (h : l <+: l') {x : α} (e : x ∈ l) : x ∈ l' := by
  obtain ⟨t, rfl⟩ := h
  exact List.mem_append_left _ e
section
variable {a : Addr} {y y1 y2 : Ly} {H H1 H2 : Hp}
theorem Sx.fr (x : Sx a y H y1 H1) {p : Addr} (hp : p ≠ a) (hm : p ∉ y.m) (h : Fr H1 p) : Fr H p := fun o e => by
  cases t : isT o with
  | true => rfl
  | false => exact t.symm.trans (h o (x.st p o hp hm e t))
theorem Sx.trans (x : Sx a y H y1 H1) (z : Sx a y1 H1 y2 H2) (ha : a ∉ y2.m ∧ a ∉ y2.ap) (hd : ∀ p ∈ y2.ap, p ∉ y2.m) : Sx a y H y2 H2 where
  m := x.m.trans z.m
  ap := fun p h => (z.ap p h).elim (x.ap p) fun e => by
    exact .inr (x.fr (fun q => ha.2 (q ▸ h)) (fun q => hd p h (pre_mem (x.m.trans z.m) q)) e)
  nw := fun p h => (z.nw p h).elim (x.nw p) fun e => by
    by_cases q : p ∈ y.m
    · exact .inl q
    · exact .inr (x.fr (fun q => ha.1 (q ▸ h)) q e)
  st := fun b o hb hm e t => by
    have e1 := x.st b o hb hm e t
    refine z.st b o hb (fun q => ?_) e1 t
    rcases x.nw b q with q | q
    · exact hm q
    · exact q.no e t
end
abbrev Wc.at_ (c : Wc) (y : Ly) : Wc := { c with y := y }
section
variable {c : Wc} {y : Ly} {n n' : Cs} {H H' : Hp}
theorem Lay.at_av {i : Nat} {p : Addr} (h : c.y.m[i]? = some p) : c.av p := .inr (.inl (List.mem_of_getElem? h))
theorem Lay.live (L : Lay c n H) : Live c.av H := fun p hp => by
  rcases hp with e | h | h
  · obtain ⟨i, r, h1, _⟩ := L.pen
    exact ⟨_, e ▸ h1, rfl⟩
  · obtain ⟨i, hi, e⟩ := List.getElem_of_mem h
    have e2 : c.y.m[i]? = some p := by rw [List.getElem?_eq_getElem hi, e]
    have hs : i < n.s.length := by rw [L.len]; exact hi
    obtain ⟨vs, ⟨o, h1, h2, _⟩, _⟩ := L.cel i _ p (List.getElem?_eq_getElem hs) e2
    exact ⟨o, h1, h2⟩
  · obtain ⟨o, h1, h2, _⟩ := L.lv p h
    exact ⟨o, h1, h2⟩
theorem Lay.pa (_ : Lay c n H) : c.av c.a := .inl rfl
theorem Lay.new (L : Lay c n H) {p : Addr} (hp : H p = none) : ¬ c.av p := L.live.new hp
/-- how data moves along a step -/
theorem Sx.kp (x : Sx c.a c.y H y H') : Kp c.av H H' := fun b o hb e t => x.st b o (fun z => hb (.inl z)) (fun z => hb (.inr (.inl z))) e t
theorem Sx.grow (x : Sx c.a c.y H y H') : Grow c (c.at_ y) := ⟨rfl, rfl, rfl, rfl, fun i p h => pre_get x.m h⟩
theorem Sx.wide (x : Sx c.a c.y H y H') : ∀ p, (c.at_ y).av p → c.av p ∨ Fr H p := fun p h => by
  rcases h with h | h | h
  · exact .inl (.inl h)
  · exact (x.nw p h).imp (fun z => .inr (.inl z)) id
  · exact (x.ap p h).imp (fun z => .inr (.inr z)) id
theorem Da.sx {v : V} {d : Dt} (h : Da c c.av H v d) (x : Sx c.a c.y H y H') : Da (c.at_ y) (c.at_ y).av H' v d := Da.move x.grow x.wide x.kp d v h
theorem DaAll.sx {vs : List V} {ds : List Dt} (h : DaAll c c.av H vs ds) (x : Sx c.a c.y H y H') : DaAll (c.at_ y) (c.at_ y).av H' vs ds := DaAll.move x.grow x.wide x.kp ds vs h
theorem Lay.same (L : Lay c n H) (x : Same H H') : Lay c n H' where
  pen := L.pen.same x
  pl := L.pl
  len := L.len
  nd := L.nd
  na := L.na
  dj := L.dj
  lv := fun p h => by
    obtain ⟨o, h1, h2⟩ := L.lv p h
    exact ⟨o, x _ _ h1, h2⟩
  cel := fun i d p h1 h2 => by
    obtain ⟨vs, h3, h4⟩ := L.cel i d p h1 h2
    exact ⟨vs, h3.to fun o e _ => x _ _ e, h4.keep (same_kp x)⟩
theorem Lay.less (L : Lay c n H) (h : n' = { n with n := n'.n }) (hn : n'.n ≤ n.n) : Lay c n' H := by
  rw [h]
  exact { pen := L.pen.less hn, pl := L.pl, len := L.len, nd := L.nd, na := L.na, dj := L.dj, lv := L.lv, cel := L.cel }
/-- less is kept apart -/
theorem Lay.drop (L : Lay c n H) {ap : List Addr} (h : ∀ p ∈ ap, p ∈ c.y.ap) : Lay (c.at_ ⟨c.y.m, ap⟩) n H := by
  have w : ∀ p, (c.at_ ⟨c.y.m, ap⟩).av p → c.av p := fun p z => by
    rcases z with z | z | z
    · exact .inl z
    · exact .inr (.inl z)
    · exact .inr (.inr (h p z))
  exact {
    pen := L.pen
    pl := fun z => L.pl (w _ z)
    len := L.len
    nd := L.nd
    na := ⟨L.na.1, fun z => L.na.2 (h _ z)⟩
    dj := fun p z => L.dj p (h p z)
    lv := fun p z => L.lv p (h p z)
    cel := fun i d p h1 h2 => by
      obtain ⟨vs, h3, h4⟩ := L.cel i d p h1 h2
      exact ⟨vs, h3.ctx rfl, DaAll.move (c := c) (c' := c.at_ ⟨c.y.m, ap⟩) ⟨rfl, rfl, rfl, rfl, fun _ _ z => z⟩ (fun p z => .inl (w p z)) (Kp.refl _ _) _ _ h4⟩ }
theorem Da.drop {v : V} {d : Dt} (h0 : Da c c.av H v d) {ap : List Addr} (h : ∀ p ∈ ap, p ∈ c.y.ap) : Da (c.at_ ⟨c.y.m, ap⟩) (c.at_ ⟨c.y.m, ap⟩).av H v d :=
  Da.move (c := c) (c' := c.at_ ⟨c.y.m, ap⟩) ⟨rfl, rfl, rfl, rfl, fun _ _ z => z⟩ (fun p z => .inl (z.imp id fun z => z.imp id (h p))) (Kp.refl _ _) _ _ h0
theorem DaAll.drop' {v : List V} {d : List Dt} (h0 : DaAll c c.av H v d) {ap : List Addr} (h : ∀ p ∈ ap, p ∈ c.y.ap) : DaAll (c.at_ ⟨c.y.m, ap⟩) (c.at_ ⟨c.y.m, ap⟩).av H v d :=
  DaAll.move (c := c) (c' := c.at_ ⟨c.y.m, ap⟩) ⟨rfl, rfl, rfl, rfl, fun _ _ z => z⟩ (fun p z => .inl (z.imp id fun z => z.imp id (h p))) (Kp.refl _ _) _ _ h0
/-- a new object, kept apart -/
theorem Lay.apart (L : Lay c n H) {p : Addr} (hp : H p = none) (u : HO) (h1 : isT u = false := by rfl) (h2 : isC u = false := by rfl) : Lay (c.at_ ⟨c.y.m, p :: c.y.ap⟩) n (upd H p u) := by
  have np := L.new hp
  have npl : p ≠ c.l := fun z => by
    obtain ⟨_, _, _, q, _⟩ := L.pen
    rw [← z, hp] at q
    cases q
  have x : Sx c.a c.y H ⟨c.y.m, p :: c.y.ap⟩ (upd H p u) := ⟨List.prefix_refl _, fun q h => (List.mem_cons.mp h).elim (fun e => .inr (e ▸ fr_none hp)) .inl, fun _ h => .inl h, fun b o _ _ h _ => same_new hp b o h⟩
  exact {
    pen := L.pen.same (same_new hp)
    pl := fun z => by
      rcases z with z | z | z
      · exact L.pl (.inl z)
      · exact L.pl (.inr (.inl z))
      · rcases List.mem_cons.mp z with z | z
        · exact npl z.symm
        · exact L.pl (.inr (.inr z))
    len := L.len
    nd := L.nd
    na := ⟨L.na.1, fun z => (List.mem_cons.mp z).elim (fun e => np (.inl e.symm)) L.na.2⟩
    dj := fun q h => (List.mem_cons.mp h).elim (fun e z => np (.inr (.inl (e ▸ z)))) (L.dj q)
    lv := fun q h => (List.mem_cons.mp h).elim (fun e => ⟨u, by rw [e, upd_same], h1, h2⟩) fun h => by
      obtain ⟨o, a1, a2⟩ := L.lv q h
      exact ⟨o, same_new hp _ _ a1, a2⟩
    cel := fun i d q h3 h4 => by
      obtain ⟨vs, h5, h6⟩ := L.cel i d q h3 h4
      exact ⟨vs, (h5.to fun o e _ => same_new hp _ _ e).ctx rfl, h6.sx x⟩ }
theorem sx_apart {p : Addr} (hp : H p = none) (u : HO) : Sx c.a c.y H ⟨c.y.m, p :: c.y.ap⟩ (upd H p u) := ⟨List.prefix_refl _, fun q h => (List.mem_cons.mp h).elim (fun e => .inr (e ▸ fr_none hp)) .inl, fun _ h => .inl h, fun b o _ _ h _ => same_new hp b o h⟩
/-- what is kept apart changes -/
theorem Lay.turn (L : Lay c n H) {p : Addr} (hp : p ∈ c.y.ap) (u : HO) (h1 : isT u = false := by rfl) (h2 : isC u = false := by rfl) : Lay c n (upd H p u) := by
  obtain ⟨w, e, t, k⟩ := L.lv p hp
  have kp : Kp c.av H (upd H p u) := fun b o hb e _ => by
    have hne : b ≠ p := fun z => hb (.inr (.inr (z ▸ hp)))
    rw [upd_ne hne]
    exact e
  exact {
    pen := L.pen.upd (fun z => L.na.2 (z ▸ hp)) (fun z => L.pl (.inr (.inr (z ▸ hp)))) e t k
    pl := L.pl
    len := L.len
    nd := L.nd
    na := L.na
    dj := L.dj
    lv := fun q h => by
      by_cases e : q = p
      · exact ⟨u, by rw [e, upd_same], h1, h2⟩
      · rw [upd_ne e]; exact L.lv q h
    cel := fun i d q h3 h4 => by
      obtain ⟨vs, h5, h6⟩ := L.cel i d q h3 h4
      have hne : q ≠ p := fun z => L.dj p hp (z ▸ List.mem_of_getElem? h4)
      exact ⟨vs, h5.to fun o e _ => by rw [upd_ne hne]; exact e, h6.keep kp⟩ }
/-- what is kept apart becomes the last cell -/
theorem Lay.cell (L : Lay c n H) {p : Addr} {ap : List Addr} (hp : c.y.ap = p :: ap) (hn : p ∉ ap) {d : Dt} {vs : List V} (h1 : OwH c H p d vs) (h2 : DaAll c c.av H vs d.kids) : Lay (c.at_ ⟨c.y.m ++ [p], ap⟩) { n with s := n.s ++ [d] } H := by
  have mem : p ∈ c.y.ap := by rw [hp]; exact List.mem_cons_self
  have sub : ∀ q ∈ ap, q ∈ c.y.ap := fun q h => by rw [hp]; exact List.mem_cons_of_mem _ h
  have w : ∀ q, (c.at_ ⟨c.y.m ++ [p], ap⟩).av q → c.av q := fun q h => by
    rcases h with h | h | h
    · exact .inl h
    · rcases List.mem_append.mp h with h | h
      · exact .inr (.inl h)
      · exact .inr (.inr (List.mem_singleton.mp h ▸ mem))
    · exact .inr (.inr (sub q h))
  have mv : ∀ {ds : List Dt} {vs : List V}, DaAll c c.av H vs ds → DaAll (c.at_ ⟨c.y.m ++ [p], ap⟩) (c.at_ ⟨c.y.m ++ [p], ap⟩).av H vs ds := fun h => DaAll.move (c := c) (c' := c.at_ ⟨c.y.m ++ [p], ap⟩) ⟨rfl, rfl, rfl, rfl, fun i q z => pre_get (List.prefix_append _ _) z⟩ (fun p z => .inl (w p z)) (Kp.refl _ _) _ _ h
  exact {
    pen := L.pen
    pl := fun z => L.pl (w _ z)
    len := by
      show (n.s ++ [d]).length = (c.y.m ++ [p]).length
      rw [List.length_append, List.length_append, L.len]
      rfl
    nd := by
      show (c.y.m ++ [p]).Nodup
      rw [List.nodup_append]
      exact ⟨L.nd, by simp, fun a ha b hb => by rw [List.mem_singleton.mp hb]; exact fun z => L.dj p mem (z ▸ ha)⟩
    na := ⟨fun z => (List.mem_append.mp z).elim L.na.1 fun z => L.na.2 (List.mem_singleton.mp z ▸ mem), fun z => L.na.2 (sub _ z)⟩
    dj := fun q h z => (List.mem_append.mp z).elim (L.dj q (sub q h)) fun z => hn (List.mem_singleton.mp z ▸ h)
    lv := fun q h => L.lv q (sub q h)
    cel := fun i e q h3 h4 => by
      have h3' : (n.s ++ [d])[i]? = some e := h3
      have h4' : (c.y.m ++ [p])[i]? = some q := h4
      by_cases hi : i < n.s.length
      · rw [List.getElem?_append_left hi] at h3'
        rw [List.getElem?_append_left (by rw [← L.len]; exact hi)] at h4'
        obtain ⟨vs, h5, h6⟩ := L.cel i e q h3' h4'
        exact ⟨vs, h5.ctx rfl, mv h6⟩
      · rw [List.getElem?_append_right (by omega)] at h3'
        rw [List.getElem?_append_right (by rw [← L.len]; omega), ← L.len] at h4'
        cases hj : i - n.s.length with
        | succ j => rw [hj] at h3'; simp at h3'
        | zero =>
          rw [hj] at h3' h4'
          cases h3'; cases h4'
          exact ⟨vs, h1.ctx rfl, mv h2⟩ }
/-- a cell changes -/
theorem Lay.set (L : Lay c n H) {i : Nat} {d0 d : Dt} {p : Addr} (hi : n.s[i]? = some d0) (hp : c.y.m[i]? = some p) {u : HO} {vs : List V} (h1 : isT u = false) (h2 : isC u = false) (h3 : OwO c u vs d) (h4 : DaAll c c.av H vs d.kids) : Lay c { n with s := n.s.set i d } (upd H p u) := by
  have mem : p ∈ c.y.m := List.mem_of_getElem? hp
  have kp : Kp c.av H (upd H p u) := fun b o hb e _ => by
    have hne : b ≠ p := fun z => hb (.inr (.inl (z ▸ mem)))
    rw [upd_ne hne]
    exact e
  obtain ⟨vs0, ⟨w, e, t, k, _⟩, _⟩ := L.cel i d0 p hi hp
  exact {
    pen := L.pen.upd (fun z => L.na.1 (z ▸ mem)) (fun z => L.pl (.inr (.inl (z ▸ mem)))) e t k
    pl := L.pl
    len := by
      show (n.s.set i d).length = _
      rw [List.length_set]; exact L.len
    nd := L.nd
    na := L.na
    dj := L.dj
    lv := fun q h => by
      have hne : q ≠ p := fun z => L.dj q h (z ▸ mem)
      rw [upd_ne hne]; exact L.lv q h
    cel := fun j e q h5 h6 => by
      have h5' : (n.s.set i d)[j]? = some e := h5
      by_cases hj : i = j
      · subst hj
        rw [List.getElem?_set_self (List.getElem?_eq_some_iff.mp hi).1] at h5'
        cases h5'
        rw [hp] at h6
        cases h6
        exact ⟨vs, ⟨u, upd_same, h1, h2, h3⟩, h4.keep kp⟩
      · rw [List.getElem?_set_ne hj] at h5'
        obtain ⟨ws, h7, h8⟩ := L.cel j e q h5' h6
        have hne : q ≠ p := fun z => by
          subst z
          obtain ⟨a1, a2⟩ := List.getElem?_eq_some_iff.mp hp
          obtain ⟨b1, b2⟩ := List.getElem?_eq_some_iff.mp h6
          exact hj ((List.getElem_inj L.nd).mp (a2.trans b2.symm))
        exact ⟨ws, h7.to fun o e _ => by rw [upd_ne hne]; exact e, h8.keep kp⟩ }
theorem sx_set {i : Nat} {p : Addr} (hp : c.y.m[i]? = some p) (u : HO) : Sx c.a c.y H c.y (upd H p u) := ⟨List.prefix_refl _, fun _ h => .inl h, fun _ h => .inl h, fun b o _ hm e _ => by
  have hne : b ≠ p := fun z => hm (z ▸ List.mem_of_getElem? hp)
  rw [upd_ne hne]; exact e⟩
end
end Pb
namespace Pb
open PySem PySem.Spec PyProof.Rows L2

/-- fixed through a body: what it may raise -/
structure Fc extends Wc where
  E : XK
  xk : Str → List (Str × Dt) → Cs → Prop
abbrev Fc.at_ (c : Fc) (y : Ly) : Fc := { c with toWc := c.toWc.at_ y }
/-- where a body began -/
structure Rt where
  H0 : Hp
  y0 : Ly
  ln : Nat
/-- how errors leave -/
def Exk (c : Fc) (ρ : Rt) : Prop := ∀ (cn : Str) (C x : Addr) (m : List Addr) (H' : Hp) (fs : List (Str × V)) (es : List (Str × Dt)) (n' : Cs), c.mg cn = some (.ref C) →
  Sx c.a ρ.y0 ρ.H0 ⟨m, ρ.y0.ap⟩ H' → Lay (c.toWc.at_ ⟨m, ρ.y0.ap⟩) n' H' → ¬ (c.toWc.at_ ⟨m, ρ.y0.ap⟩).av x → H' x = some (.xd fs) → fs.map (·.1) = es.map (·.1) →
  DaAll (c.toWc.at_ ⟨m, ρ.y0.ap⟩) (c.toWc.at_ ⟨m, ρ.y0.ap⟩).av H' (fs.map (·.2)) (es.map (·.2)) → c.xk cn es n' → c.E (.ref C) (some x) H'
structure SS (c : Fc) (ρ : Rt) (Γ : List Sl) (n : Cs) (σ : L2.St) (H : Hp) : Prop where
  len : σ.length = Γ.length
  gl : Γ.length = ρ.ln
  lay : Lay c.toWc n H
  sx : Sx c.a ρ.y0 ρ.H0 c.y H
  aps : ∀ p ∈ ρ.y0.ap, p ∈ c.y.ap
  ex : Exk c ρ
  dat : ∀ (i : Nat) (d : Dt), Γ[i]? = some (Sl.da d) → ∃ v, σ[i]? = some (some v) ∧ Da c.toWc c.av H v d
/-- the end of a body -/
structure Out (c : Fc) (ρ : Rt) (m : List Addr) (n : Cs) (H : Hp) : Prop where
  sx : Sx c.a ρ.y0 ρ.H0 ⟨m, ρ.y0.ap⟩ H
  lay : Lay (c.toWc.at_ ⟨m, ρ.y0.ap⟩) n H
section
variable {c : Fc} {ρ : Rt} {Γ : List Sl} {n n' : Cs} {σ : L2.St} {H H' : Hp}
theorem SS.out {y : Ly} (S : SS (c.at_ y) ρ Γ n σ H) : Out c ρ y.m n H := ⟨⟨S.sx.m, fun _ h => .inl h, S.sx.nw, S.sx.st⟩, S.lay.drop S.aps⟩
theorem SS.outD (S : SS c ρ Γ n σ H) {v : V} {d : Dt} (h : Da c.toWc c.av H v d) : Da (c.toWc.at_ ⟨c.y.m, ρ.y0.ap⟩) (c.toWc.at_ ⟨c.y.m, ρ.y0.ap⟩).av H v d := h.drop S.aps
/-- a step -/
theorem SS.go (S : SS c ρ Γ n σ H) {y : Ly} (x : Sx c.a c.y H y H') (L : Lay (c.toWc.at_ y) n' H') (hap : ∀ p ∈ c.y.ap, p ∈ y.ap) : SS (c.at_ y) ρ Γ n' σ H' where
  len := S.len
  gl := S.gl
  lay := L
  sx := S.sx.trans x L.na L.dj
  aps := fun p h => hap p (S.aps p h)
  ex := S.ex
  dat := fun i d h => by
    obtain ⟨v, h1, h2⟩ := S.dat i d h
    exact ⟨v, h1, h2.sx x⟩
theorem SS.same (S : SS c ρ Γ n σ H) (x : Same H H') : SS c ρ Γ n σ H' := S.go (y := c.y) (Sx.same x) (S.lay.same x) fun _ h => h
theorem SS.apart (S : SS c ρ Γ n σ H) {p : Addr} (hp : H p = none) (u : HO) (h1 : isT u = false := by rfl) (h2 : isC u = false := by rfl) : SS (c.at_ ⟨c.y.m, p :: c.y.ap⟩) ρ Γ n σ (upd H p u) :=
  S.go (sx_apart (c := c.toWc) hp u) (S.lay.apart hp u h1 h2) fun q h => List.mem_cons_of_mem _ h
/-- a slot is given data -/
theorem SS.set (S : SS c ρ Γ n σ H) (i : Nat) {v : V} {d : Dt} (h : Da c.toWc c.av H v d) : SS c ρ (Γ.set i (.da d)) n (σ.set i (some v)) H where
  len := by rw [List.length_set, List.length_set]; exact S.len
  gl := by rw [List.length_set]; exact S.gl
  lay := S.lay
  sx := S.sx
  aps := S.aps
  ex := S.ex
  dat := fun j e q => by
    by_cases hj : i = j
    · subst hj
      have hl : i < Γ.length := by
        have := (List.getElem?_eq_some_iff.mp q).1
        rwa [List.length_set] at this
      rw [List.getElem?_set_self hl] at q
      cases q
      exact ⟨v, List.getElem?_set_self (by rw [S.len]; exact hl), h⟩
    · rw [List.getElem?_set_ne hj] at q
      rw [List.getElem?_set_ne hj]
      exact S.dat j e q
/-- slots are forgotten -/
theorem SS.forget {Γ' : List Sl} {σ' : L2.St} (S : SS c ρ Γ n σ H) (hl : σ'.length = Γ'.length) (hg : Γ'.length = Γ.length) (h : ∀ (i : Nat) (s : Sl), Γ'[i]? = some s → s = Sl.un ∨ (Γ[i]? = some s ∧ σ'[i]? = σ[i]?)) : SS c ρ Γ' n σ' H where
  len := hl
  gl := hg.trans S.gl
  lay := S.lay
  sx := S.sx
  aps := S.aps
  ex := S.ex
  dat := fun i d q => (h i _ q).elim (fun z => by cases z) fun z => by rw [z.2]; exact S.dat i d z.1
end
/-! ### readings over data -/
abbrev Kd := Dt → Cs → Prop
def We (c : Fc) (Γ : List Sl) (n : Cs) (te : TE) (k : Kd) : Prop := ∀ y ρ σ H, SS (c.at_ y) ρ Γ n σ H → ∀ Q : VK,
  (∀ m v H' d n', SS (c.at_ ⟨m, y.ap⟩) ρ Γ n' σ H' → Sx c.a y H ⟨m, y.ap⟩ H' → Da (c.toWc.at_ ⟨m, y.ap⟩) (c.toWc.at_ ⟨m, y.ap⟩).av H' v d → k d n' → Q v H') → te σ H Q
def Wt (c : Fc) (Γ : List Sl) (n : Cs) (tt : TT) (k : Bool → Cs → Prop) : Prop := ∀ y ρ σ H, SS (c.at_ y) ρ Γ n σ H → ∀ Q : Bool → Hp → Prop,
  (∀ m b H' n', SS (c.at_ ⟨m, y.ap⟩) ρ Γ n' σ H' → Sx c.a y H ⟨m, y.ap⟩ H' → k b n' → Q b H') → tt σ H Q
def Wa (c : Fc) (Γ : List Sl) (n : Cs) (ta : TA) (k : List Dt → Cs → Prop) : Prop := ∀ y ρ σ H, SS (c.at_ y) ρ Γ n σ H → ∀ Q : List V → Hp → Prop,
  (∀ m vs H' ds n', SS (c.at_ ⟨m, y.ap⟩) ρ Γ n' σ H' → Sx c.a y H ⟨m, y.ap⟩ H' → DaAll (c.toWc.at_ ⟨m, y.ap⟩) (c.toWc.at_ ⟨m, y.ap⟩).av H' vs ds → k ds n' → Q vs H') → ta σ H Q
/-- a new object, told to the taker -/
def Wn (c : Fc) (Γ : List Sl) (n : Cs) (te : TE) (k : Kd) : Prop := ∀ y ρ σ H, SS (c.at_ y) ρ Γ n σ H → ∀ Q : VK,
  (∀ m p vs H' d n', SS (c.at_ ⟨m, p :: y.ap⟩) ρ Γ n' σ H' → p ∉ y.ap → Sx c.a y H ⟨m, y.ap⟩ H' → Fr H p → OwH c.toWc H' p d vs → DaAll (c.toWc.at_ ⟨m, p :: y.ap⟩) (c.toWc.at_ ⟨m, p :: y.ap⟩).av H' vs d.kids → k d n' → Q (.ref p) H') → te σ H Q
/-- what is wanted behind a statement -/
structure Nd where
  nx : List Sl → Cs → Prop
  rt : Kd
  bk : List Sl → Cs → Prop := fun _ _ => False
  ct : List Sl → Cs → Prop := fun _ _ => False
structure Lk (c : Fc) (ρ : Rt) (N : Nd) (D : Ends) : Prop where
  nx : ∀ y Γ n σ H, SS (c.at_ y) ρ Γ n σ H → N.nx Γ n → D.nx σ H
  rt : ∀ m v H d n, Out c ρ m n H → Da (c.toWc.at_ ⟨m, ρ.y0.ap⟩) (c.toWc.at_ ⟨m, ρ.y0.ap⟩).av H v d → N.rt d n → D.rt v H
  bk : ∀ y Γ n σ H, SS (c.at_ y) ρ Γ n σ H → N.bk Γ n → D.bk σ H
  ct : ∀ y Γ n σ H, SS (c.at_ y) ρ Γ n σ H → N.ct Γ n → D.ct σ H
def Ws (c : Fc) (Γ : List Sl) (n : Cs) (ts : TS) (N : Nd) : Prop := ∀ y ρ σ H, SS (c.at_ y) ρ Γ n σ H → ∀ D, Lk c ρ N D → ts D σ H
/-- operations on values, as they stand -/
def R2V (c : Fc) (n : Cs) (r : R2) (d1 d2 : Dt) (k : Dt → Prop) : Prop := ∀ y H x z, Lay (c.toWc.at_ y) n H → Da (c.toWc.at_ y) (c.toWc.at_ y).av H x d1 → Da (c.toWc.at_ y) (c.toWc.at_ y).av H z d2 → ∀ Q : VK, (∀ w H' d, Same H H' → Da (c.toWc.at_ y) (c.toWc.at_ y).av H' w d → k d → Q w H') → r x z H Q
def R1V (c : Fc) (n : Cs) (r : V → Hp → VK → Prop) (d1 : Dt) (k : Dt → Prop) : Prop := ∀ y H x, Lay (c.toWc.at_ y) n H → Da (c.toWc.at_ y) (c.toWc.at_ y).av H x d1 → ∀ Q : VK, (∀ w H' d, Same H H' → Da (c.toWc.at_ y) (c.toWc.at_ y).av H' w d → k d → Q w H') → r x H Q
/-- built-ins -/
def RPV (c : Fc) (n : Cs) (r : List V → Hp → VK → Prop) (ds : List Dt) (k : Dt → Prop) : Prop := ∀ y H vs, Lay (c.toWc.at_ y) n H → DaAll (c.toWc.at_ y) (c.toWc.at_ y).av H vs ds → ∀ Q : VK, (∀ w H' d, Same H H' → Da (c.toWc.at_ y) (c.toWc.at_ y).av H' w d → k d → Q w H') → r vs H Q
/-- built-ins that make a new object -/
def RPN (c : Fc) (n : Cs) (r : List V → Hp → VK → Prop) (ds : List Dt) (k : Dt → Prop) : Prop := ∀ y H vs, Lay (c.toWc.at_ y) n H → DaAll (c.toWc.at_ y) (c.toWc.at_ y).av H vs ds → ∀ Q : VK,
  (∀ p u ws d, H p = none → isT u = false → isC u = false → OwO c.toWc u ws d → DaAll (c.toWc.at_ y) (c.toWc.at_ y).av H ws d.kids → k d → Q (.ref p) (upd H p u)) → r vs H Q
/-- calls of defs -/
def RFD (c : Fc) (r : List V → Hp → VK → Prop) (ds : List Dt) (n : Cs) (k : Kd) : Prop := ∀ y ρ H vs, Lay (c.toWc.at_ y) n H → Sx c.a ρ.y0 ρ.H0 y H → (∀ p ∈ ρ.y0.ap, p ∈ y.ap) → Exk c ρ → DaAll (c.toWc.at_ y) (c.toWc.at_ y).av H vs ds → ∀ Q : VK,
  (∀ m z H' d n', Sx c.a y H ⟨m, y.ap⟩ H' → Lay (c.toWc.at_ ⟨m, y.ap⟩) n' H' → Da (c.toWc.at_ ⟨m, y.ap⟩) (c.toWc.at_ ⟨m, y.ap⟩).av H' z d → k d n' → Q z H') → r vs H Q
section
variable {c : Fc} {Γ : List Sl} {n : Cs} {k : Kd} {kt : Bool → Cs → Prop} {ka : List Dt → Cs → Prop} {ta tb tc te : TE} {tt tu : TT} {ts tl : TA} {r r' : R2} {d d1 d2 : Dt} {b : Bool} {i : Nat}
theorem We.mono {k' : Kd} (h : We c Γ n te k) (hk : ∀ d m, k d m → k' d m) : We c Γ n te k' := fun y ρ σ H S Q q => h y ρ σ H S Q fun m v H' d n' S' x h' kk => q m v H' d n' S' x h' (hk _ _ kk)
theorem Wt.mono {k' : Bool → Cs → Prop} (h : Wt c Γ n tt kt) (hk : ∀ d m, kt d m → k' d m) : Wt c Γ n tt k' := fun y ρ σ H S Q q => h y ρ σ H S Q fun m v H' n' S' x kk => q m v H' n' S' x (hk _ _ kk)
theorem Wa.mono {k' : List Dt → Cs → Prop} (h : Wa c Γ n tl ka) (hk : ∀ d m, ka d m → k' d m) : Wa c Γ n tl k' := fun y ρ σ H S Q q => h y ρ σ H S Q fun m v H' d n' S' x h' kk => q m v H' d n' S' x h' (hk _ _ kk)
theorem Wn.mono {k' : Kd} (h : Wn c Γ n te k) (hk : ∀ d m, k d m → k' d m) : Wn c Γ n te k' := fun y ρ σ H S Q q => h y ρ σ H S Q fun m p vs H' d n' S' np x fr ow da kk => q m p vs H' d n' S' np x fr ow da (hk _ _ kk)
/-- the step of one and the step of the next -/
theorem stp2 {ρ : Rt} {σ : L2.St} {m2 : List Addr} {n2 : Cs} {y y1 : Ly} {H H1 H2 : Hp} (x1 : Sx c.a y H y1 H1) (x2 : Sx c.a y1 H1 ⟨m2, y.ap⟩ H2) (S : SS (c.at_ ⟨m2, y.ap⟩) ρ Γ n2 σ H2) : Sx c.a y H ⟨m2, y.ap⟩ H2 := x1.trans x2 S.lay.na S.lay.dj
/-- a new object as data -/
theorem Wn.tree (h : Wn c Γ n te k) : We c Γ n te k := by
  intro y ρ σ H S Q hQ
  refine h y ρ σ H S Q fun m p vs H' d n' S' np x fr ow da kk => ?_
  have sub : ∀ q ∈ y.ap, q ∈ (c.at_ ⟨m, p :: y.ap⟩).y.ap := fun q z => List.mem_cons_of_mem _ z
  have nav : ¬ (c.toWc.at_ ⟨m, y.ap⟩).av p := fun z => by
    rcases z with z | z | z
    · exact S'.lay.na.2 (z ▸ List.mem_cons_self)
    · exact S'.lay.dj p List.mem_cons_self z
    · exact np z
  have da' : DaAll (c.toWc.at_ ⟨m, y.ap⟩) (c.toWc.at_ ⟨m, y.ap⟩).av H' vs d.kids := da.drop' sub
  have dd : Da (c.toWc.at_ ⟨m, y.ap⟩) (c.toWc.at_ ⟨m, y.ap⟩).av H' (.ref p) d := by
    obtain ⟨o, h1, h2, h3, h4⟩ := ow
    cases d with
    | lst ds =>
      cases (show o = .lst vs from h4)
      exact .lst nav h1 da'
    | dic ks ds =>
      obtain ⟨kvs, rfl, e1, e2⟩ := (show ∃ kvs : List (Key × V), o = .dK kvs ∧ kvs.map (·.1) = ks ∧ kvs.map (·.2) = vs from h4)
      exact .dic nav h1 e1 (e2 ▸ da')
    | obj cn ns ds =>
      obtain ⟨C, dx, fs, e0, rfl, e1, e2⟩ := (show ∃ (C dx : Addr) (fs : List (Str × V)), c.mg cn = some (.ref C) ∧ o = .ins C dx fs ∧ fs.map (·.1) = ns ∧ fs.map (·.2) = vs from h4)
      exact .obj nav e0 h1 e1 (e2 ▸ da')
    | _ => exact h4.elim
  refine hQ m (.ref p) H' d n' ?_ x dd kk
  have L2 : Lay (c.toWc.at_ ⟨m, y.ap⟩) n' H' := S'.lay.drop sub
  exact S.go x L2 fun _ z => z
/-- a new object as the last cell -/
theorem Wn.cell (h : Wn c Γ n te fun d n' => k (.rf n'.s.length) ⟨n'.n, n'.s ++ [d]⟩) : We c Γ n te k := by
  intro y ρ σ H S Q hQ
  refine h y ρ σ H S Q fun m p vs H' d n' S' np x fr ow da kk => ?_
  have L2 : Lay (c.toWc.at_ ⟨m ++ [p], y.ap⟩) ⟨n'.n, n'.s ++ [d]⟩ H' := S'.lay.cell (p := p) (ap := y.ap) rfl np (ow.ctx rfl) da
  have x2 : Sx c.a y H ⟨m ++ [p], y.ap⟩ H' := ⟨x.m.trans (List.prefix_append _ _), x.ap, fun q z => (List.mem_append.mp z).elim (x.nw q) fun e => .inr (by rw [List.mem_singleton.mp e]; exact fr), x.st⟩
  refine hQ (m ++ [p]) (.ref p) H' (.rf n'.s.length) ⟨n'.n, n'.s ++ [d]⟩ (S.go x2 L2 fun _ z => z) x2 (.rf ?_) kk
  show (m ++ [p])[n'.s.length]? = some p
  rw [show n'.s.length = m.length from S'.lay.len]
  simp
theorem w_var (h : Γ[i]? = some (Sl.da d)) (q : k d n) : We c Γ n (tVar i) k := by
  intro y ρ σ H S Q hQ
  obtain ⟨v, h1, h2⟩ := S.dat i d h
  exact ⟨v, h1, hQ y.m v H d n S Sx.refl h2 q⟩
theorem w_non (q : k .non n) : We c Γ n (tC .non) k := fun y ρ σ H S Q hQ => hQ y.m _ H _ n S Sx.refl .non q
theorem w_bl (q : k (.bl b) n) : We c Γ n (tC (.bl b)) k := fun y ρ σ H S Q hQ => hQ y.m _ H _ n S Sx.refl (.bl b) q
theorem w_int {j : Int} (q : k (.int j) n) : We c Γ n (tC (.int j)) k := fun y ρ σ H S Q hQ => hQ y.m _ H _ n S Sx.refl (.int j) q
theorem w_str {x : Str} (q : k (.str x) n) : We c Γ n (tC (.str x)) k := fun y ρ σ H S Q hQ => hQ y.m _ H _ n S Sx.refl (.str x) q
theorem w_op (h : We c Γ n ta fun d1 n1 => We c Γ n1 tb fun d2 n2 => R2V c n2 r d1 d2 fun d => k d n2) : We c Γ n (tOp r ta tb) k := by
  intro y ρ σ H S Q hQ
  refine h y ρ σ H S _ fun m1 x H1 d1 n1 S1 x1 h1 k1 => ?_
  refine k1 ⟨m1, y.ap⟩ ρ σ H1 S1 _ fun m2 z H2 d2 n2 S2 x2 h2 k2 => ?_
  refine k2 ⟨m2, y.ap⟩ H2 x z S2.lay (h1.sx x2) h2 Q fun w H3 d x3 h3 k3 => ?_
  exact hQ m2 w H3 d n2 (S2.same x3) (stp2 (stp2 x1 x2 S2) (Sx.same x3) (S2.same x3)) h3 k3
theorem w_un {r : V → Hp → VK → Prop} (h : We c Γ n ta fun d1 n1 => R1V c n1 r d1 fun d => k d n1) : We c Γ n (tUn r ta) k := by
  intro y ρ σ H S Q hQ
  refine h y ρ σ H S _ fun m1 x H1 d1 n1 S1 x1 h1 k1 => ?_
  refine k1 ⟨m1, y.ap⟩ H1 x S1.lay h1 Q fun z H3 d x3 h3 k3 => ?_
  exact hQ m1 z H3 d n1 (S1.same x3) (stp2 x1 (Sx.same x3) (S1.same x3)) h3 k3
theorem wa_nil (q : ka [] n) : Wa c Γ n tNil ka := fun y ρ σ H S Q hQ => hQ y.m _ H _ n S Sx.refl .nil q
theorem wa_cons (h : We c Γ n ta fun d1 n1 => Wa c Γ n1 tl fun ds n2 => ka (d1 :: ds) n2) : Wa c Γ n (tCons ta tl) ka := by
  intro y ρ σ H S Q hQ
  refine h y ρ σ H S _ fun m1 x H1 d1 n1 S1 x1 h1 k1 => ?_
  refine k1 ⟨m1, y.ap⟩ ρ σ H1 S1 _ fun m2 vs H2 ds n2 S2 x2 h2 k2 => ?_
  exact hQ m2 (x :: vs) H2 (d1 :: ds) n2 S2 (stp2 x1 x2 S2) (.cons (h1.sx x2) h2) k2
/-- a call of a def -/
theorem w_cf {r : List V → Hp → VK → Prop} (h : Wa c Γ n tl fun ds n1 => RFD c r ds n1 k) : We c Γ n (tCB r tl) k := by
  intro y ρ σ H S Q hQ
  refine h y ρ σ H S _ fun m1 vs H1 ds n1 S1 x1 h1 k1 => ?_
  refine k1 ⟨m1, y.ap⟩ ρ H1 vs S1.lay S1.sx S1.aps S1.ex h1 Q fun m2 z H2 d n2 x2 L2 h2 k2 => ?_
  have S2 : SS (c.at_ ⟨m2, y.ap⟩) ρ Γ n2 σ H2 := S1.go x2 L2 fun _ z => z
  exact hQ m2 z H2 d n2 S2 (stp2 x1 x2 S2) h2 k2
/-- a call of a built-in -/
theorem w_cb {r : List V → Hp → VK → Prop} (h : Wa c Γ n tl fun ds n1 => RPV c n1 r ds fun d => k d n1) : We c Γ n (tCB r tl) k := by
  intro y ρ σ H S Q hQ
  refine h y ρ σ H S _ fun m1 vs H1 ds n1 S1 x1 h1 k1 => ?_
  refine k1 ⟨m1, y.ap⟩ H1 vs S1.lay h1 Q fun z H2 d x2 h2 k2 => ?_
  exact hQ m1 z H2 d n1 (S1.same x2) (stp2 x1 (Sx.same x2) (S1.same x2)) h2 k2
/-- .. that makes a new object -/
theorem wn_cb {r : List V → Hp → VK → Prop} (h : Wa c Γ n tl fun ds n1 => RPN c n1 r ds fun d => k d n1) : Wn c Γ n (tCB r tl) k := by
  intro y ρ σ H S Q hQ
  refine h y ρ σ H S _ fun m1 vs H1 ds n1 S1 x1 h1 k1 => ?_
  refine k1 ⟨m1, y.ap⟩ H1 vs S1.lay h1 Q fun p u ws d hp t1 t2 ow da k2 => ?_
  have S2 := S1.apart hp u t1 t2
  have np := S1.lay.new hp
  have xs : Sx c.a ⟨m1, y.ap⟩ H1 ⟨m1, y.ap⟩ (upd H1 p u) := Sx.same (same_new hp)
  have x2 : Sx c.a y H ⟨m1, y.ap⟩ (upd H1 p u) := x1.trans xs S1.lay.na S1.lay.dj
  refine hQ m1 p ws _ d n1 S2 (fun z => np (.inr (.inr z))) x2 ?_ ⟨u, upd_same, t1, t2, ow⟩ ?_ k2
  · exact x1.fr (fun z => np (.inl z)) (fun z => np (.inr (.inl (pre_mem x1.m z)))) (fr_none hp)
  · exact da.sx (sx_apart (c := (c.at_ ⟨m1, y.ap⟩).toWc) hp u)
/-- a new list, a new tuple -/
def szOk (n : Nat) : Bool := Nat.ble n 16777216
theorem szl {n : Nat} (h : szOk n = true) : n ≤ sizeLine := by
  rw [sizeLine_eq]
  exact Nat.le_of_ble_eq_true h
/-- szOk of one more -/
def szLt (n : Nat) : Bool := Nat.blt n 16777216
theorem szlt {n : Nat} (h : szLt n = true) : n < sizeLine := by
  rw [sizeLine_eq]
  exact Nat.le_of_ble_eq_true h
/-- a new object at p, made of what was evaluated -/
theorem wn_mk {y : Ly} {ρ : Rt} {σ : L2.St} {H H1 : Hp} {m1 : List Addr} {n1 : Cs} {p : Addr} {u : HO} {ws : List V} (S1 : SS (c.at_ ⟨m1, y.ap⟩) ρ Γ n1 σ H1) (x1 : Sx c.a y H ⟨m1, y.ap⟩ H1) (hp : H1 p = none) (t1 : isT u = false) (t2 : isC u = false) (ow : OwO c.toWc u ws d) (da : DaAll (c.toWc.at_ ⟨m1, y.ap⟩) (c.toWc.at_ ⟨m1, y.ap⟩).av H1 ws d.kids) (k2 : k d n1) {Q : VK}
    (hQ : ∀ m p vs H' d n', SS (c.at_ ⟨m, p :: y.ap⟩) ρ Γ n' σ H' → p ∉ y.ap → Sx c.a y H ⟨m, y.ap⟩ H' → Fr H p → OwH c.toWc H' p d vs → DaAll (c.toWc.at_ ⟨m, p :: y.ap⟩) (c.toWc.at_ ⟨m, p :: y.ap⟩).av H' vs d.kids → k d n' → Q (.ref p) H') : Q (.ref p) (upd H1 p u) := by
  have S2 := S1.apart hp u t1 t2
  have np := S1.lay.new hp
  have xs : Sx c.a ⟨m1, y.ap⟩ H1 ⟨m1, y.ap⟩ (upd H1 p u) := Sx.same (same_new hp)
  have x2 : Sx c.a y H ⟨m1, y.ap⟩ (upd H1 p u) := x1.trans xs S1.lay.na S1.lay.dj
  refine hQ m1 p ws _ d n1 S2 (fun z => np (.inr (.inr z))) x2 ?_ ⟨u, upd_same, t1, t2, ow⟩ ?_ k2
  · exact x1.fr (fun z => np (.inl z)) (fun z => np (.inr (.inl (pre_mem x1.m z)))) (fr_none hp)
  · exact da.sx (sx_apart (c := (c.at_ ⟨m1, y.ap⟩).toWc) hp u)
theorem wn_lst (h : Wa c Γ n tl fun ds n1 => szOk ds.length = true ∧ k (.lst ds) n1) : Wn c Γ n (tLst tl) k := by
  intro y ρ σ H S Q hQ
  refine h y ρ σ H S _ fun m1 vs H1 ds n1 S1 x1 h1 k1 => ?_
  refine ⟨by rw [h1.length]; exact szl k1.1, fun p hp => ?_⟩
  exact wn_mk (d := .lst ds) S1 x1 hp rfl rfl rfl h1 k1.2 hQ
theorem wn_dnew (h : k (.dic [] []) n) : Wn c Γ n tDNewK k := by
  intro y ρ σ H S Q hQ p hp
  exact wn_mk (d := .dic [] []) (u := .dK []) (ws := []) S Sx.refl hp rfl rfl ⟨[], rfl, rfl, rfl⟩ .nil h hQ
theorem w_tup (h : Wa c Γ n tl fun ds n1 => szOk ds.length = true ∧ k (.tup ds) n1) : We c Γ n (tTup tl) k := by
  intro y ρ σ H S Q hQ
  refine h y ρ σ H S _ fun m1 vs H1 ds n1 S1 x1 h1 k1 => ?_
  refine ⟨by rw [h1.length]; exact szl k1.1, fun p hp => ?_⟩
  have sm := same_new (o := .tup vs) hp
  have S2 := S1.same sm
  exact hQ m1 _ _ (.tup ds) n1 S2 (stp2 x1 (Sx.same sm) S2) (.tup (.inl ⟨S1.lay.new hp, .inl upd_same⟩) (h1.keep (same_kp sm))) k1.2
/-! tests -/
theorem wt_test (h : We c Γ n te fun d n1 => ∃ b, d = .bl b ∧ kt b n1) : Wt c Γ n (tTest te) kt := by
  intro y ρ σ H S Q hQ
  refine h y ρ σ H S _ fun m x H1 d1 n1 S1 x1 h1 k1 => ?_
  obtain ⟨b, rfl, k1⟩ := k1
  cases h1
  exact ⟨b, rfl, hQ m b H1 n1 S1 x1 k1⟩
theorem wt_yes (h : kt true n) : Wt c Γ n tYes kt := fun y ρ σ H S Q q => q y.m true H n S Sx.refl h
theorem wt_and (h : Wt c Γ n tt fun b n1 => if b = true then Wt c Γ n1 tu kt else kt false n1) : Wt c Γ n (tAnd tt tu) kt := by
  intro y ρ σ H S Q hQ
  refine h y ρ σ H S _ fun m b H1 n1 S1 x1 k1 => ?_
  cases b with
  | true => exact k1 ⟨m, y.ap⟩ ρ σ H1 S1 Q fun m2 b H2 n2 S2 x2 k2 => hQ m2 b H2 n2 S2 (stp2 x1 x2 S2) k2
  | false => exact hQ m false H1 n1 S1 x1 k1
theorem wt_or (h : Wt c Γ n tt fun b n1 => if b = true then kt true n1 else Wt c Γ n1 tu kt) : Wt c Γ n (tOr tt tu) kt := by
  intro y ρ σ H S Q hQ
  refine h y ρ σ H S _ fun m b H1 n1 S1 x1 k1 => ?_
  cases b with
  | false => exact k1 ⟨m, y.ap⟩ ρ σ H1 S1 Q fun m2 b H2 n2 S2 x2 k2 => hQ m2 b H2 n2 S2 (stp2 x1 x2 S2) k2
  | true => exact hQ m true H1 n1 S1 x1 k1
theorem wt_not (h : Wt c Γ n tt fun b n1 => kt (!b) n1) : Wt c Γ n (tNot tt) kt := by
  intro y ρ σ H S Q hQ
  exact h y ρ σ H S _ fun m b H1 n1 S1 x1 k1 => hQ m (!b) H1 n1 S1 x1 k1
theorem w_if (h : Wt c Γ n tt fun b n1 => if b = true then We c Γ n1 ta k else We c Γ n1 tb k) : We c Γ n (tIf tt ta tb) k := by
  intro y ρ σ H S Q hQ
  refine h y ρ σ H S _ fun m b H1 n1 S1 x1 k1 => ?_
  cases b with
  | true => exact k1 ⟨m, y.ap⟩ ρ σ H1 S1 Q fun m2 v H2 d n2 S2 x2 h2 k2 => hQ m2 v H2 d n2 S2 (stp2 x1 x2 S2) h2 k2
  | false => exact k1 ⟨m, y.ap⟩ ρ σ H1 S1 Q fun m2 v H2 d n2 S2 x2 h2 k2 => hQ m2 v H2 d n2 S2 (stp2 x1 x2 S2) h2 k2
theorem w_chain (h : We c Γ n ta fun d1 n1 => We c Γ n1 tb fun d2 n2 => R2V c n2 r d1 d2 fun d => ∃ b, d = .bl b ∧ if b = true then We c Γ n2 tc fun d3 n3 => R2V c n3 r' d2 d3 fun d => k d n3 else k (.bl false) n2) :
    We c Γ n (tChain r r' ta tb tc) k := by
  intro y ρ σ H S Q hQ
  refine h y ρ σ H S _ fun m1 x H1 d1 n1 S1 x1 h1 k1 => ?_
  refine k1 ⟨m1, y.ap⟩ ρ σ H1 S1 _ fun m2 z H2 d2 n2 S2 x2 h2 k2 => ?_
  refine k2 ⟨m2, y.ap⟩ H2 x z S2.lay (h1.sx x2) h2 _ fun w H3 d x3 h3 k3 => ?_
  obtain ⟨b, rfl, k3⟩ := k3
  cases h3
  refine ⟨b, rfl, ?_⟩
  have S3 := S2.same x3
  have x13 := stp2 (stp2 x1 x2 S2) (Sx.same x3) S3
  cases b with
  | false => exact hQ m2 _ H3 _ n2 S3 x13 (.bl false) k3
  | true =>
    refine k3 ⟨m2, y.ap⟩ ρ σ H3 S3 _ fun m4 w H4 d4 n4 S4 x4 h4 k4 => ?_
    have h2' : Da (c.toWc.at_ ⟨m2, y.ap⟩) (c.toWc.at_ ⟨m2, y.ap⟩).av H3 z d2 := h2.keep (same_kp x3)
    refine k4 ⟨m4, y.ap⟩ H4 z w S4.lay (h2'.sx x4) h4 Q fun v H5 d x5 h5 k5 => ?_
    have S5 := S4.same x5
    exact hQ m4 v H5 d n4 S5 (stp2 (stp2 x13 x4 S4) (Sx.same x5) S5) h5 k5
end
/-! ### statements -/
section
variable {c : Fc} {Γ : List Sl} {n : Cs} {N : Nd} {te : TE} {tt : TT} {t u : TS} {i : Nat}
theorem Ws.mono {M M' : Nd} (h : Ws c Γ n t M) (h1 : ∀ Γ m, M.nx Γ m → M'.nx Γ m) (h2 : ∀ d m, M.rt d m → M'.rt d m) (h3 : ∀ Γ m, M.bk Γ m → M'.bk Γ m) (h4 : ∀ Γ m, M.ct Γ m → M'.ct Γ m) : Ws c Γ n t M' := fun y ρ σ H S D L =>
  h y ρ σ H S D ⟨fun y Γ n σ H S q => L.nx y Γ n σ H S (h1 _ _ q), fun m v H d n o da q => L.rt m v H d n o da (h2 _ _ q), fun y Γ n σ H S q => L.bk y Γ n σ H S (h3 _ _ q), fun y Γ n σ H S q => L.ct y Γ n σ H S (h4 _ _ q)⟩
theorem w_seq (h : Ws c Γ n t { N with nx := fun Γ' n' => Ws c Γ' n' u N }) : Ws c Γ n (tSeq t u) N := by
  intro y ρ σ H S D L
  exact h y ρ σ H S { D with nx := u D } ⟨fun y Γ n σ H S' q => q y ρ σ H S' D L, L.rt, L.bk, L.ct⟩
theorem w_next (h : N.nx Γ n) : Ws c Γ n tNext N := fun y ρ σ H S D L => L.nx y Γ n σ H S h
theorem w_break (h : N.bk Γ n) : Ws c Γ n tBreak N := fun y ρ σ H S D L => L.bk y Γ n σ H S h
theorem w_cont (h : N.ct Γ n) : Ws c Γ n tCont N := fun y ρ σ H S D L => L.ct y Γ n σ H S h
theorem w_asg (h : We c Γ n te fun d n' => N.nx (Γ.set i (.da d)) n') : Ws c Γ n (tAsg te (gName i)) N := by
  intro y ρ σ H S D L
  refine h y ρ σ H S _ fun m v H' d n' S' x h' k' => ?_
  exact L.nx _ _ n' _ H' (S'.set i h') k'
theorem w_drop (h : We c Γ n te fun d n' => N.nx Γ n') : Ws c Γ n (tDrop te) N := by
  intro y ρ σ H S D L
  refine h y ρ σ H S _ fun m v H' d n' S' x h' k' => ?_
  exact L.nx _ _ n' _ H' S' k'
theorem w_ret (h : We c Γ n te N.rt) : Ws c Γ n (tRet te) N := by
  intro y ρ σ H S D L
  refine h y ρ σ H S _ fun m v H' d n' S' x h' k' => ?_
  exact L.rt m v H' d n' S'.out (S'.outD h') k'
theorem w_retN (h : N.rt .non n) : Ws c Γ n tRetN N := fun y ρ σ H S D L => L.rt y.m .non H .non n S.out .non h
theorem w_ifS (h : Wt c Γ n tt fun b n' => if b = true then Ws c Γ n' t N else Ws c Γ n' u N) : Ws c Γ n (tIfS tt t u) N := by
  intro y ρ σ H S D L
  refine h y ρ σ H S _ fun m b H' n' S' x k' => ?_
  cases b with
  | true => exact k' _ ρ σ H' S' D L
  | false => exact k' _ ρ σ H' S' D L
end
end Pb
namespace Pb
open PySem PySem.Spec PyProof.Rows L2

/-! ### operations on data, whatever is avoided -/
def R2D (c : Fc) (n : Nat) (r : R2) (d1 d2 : Dt) (k : Dt → Prop) : Prop := ∀ av H x y, Live av H → (av c.a ∧ ¬ av c.l ∧ Pen c.a c.l c.ns c.T n H) → Da c.toWc av H x d1 → Da c.toWc av H y d2 → ∀ Q : VK, (∀ z H' d, Same H H' → Da c.toWc av H' z d → k d → Q z H') → r x y H Q
def R1D (c : Fc) (r : V → Hp → VK → Prop) (d1 : Dt) (k : Dt → Prop) : Prop := ∀ av H x, Live av H → av c.a → Da c.toWc av H x d1 → ∀ Q : VK, (∀ z H' d, Same H H' → Da c.toWc av H' z d → k d → Q z H') → r x H Q
/-- built-ins that only tell -/
def RCD (c : Fc) (r : List V → Hp → VK → Prop) (ds : List Dt) (n : Nat) (k : Dt → Nat → Prop) : Prop := ∀ av H vs, Live av H → av c.a → DaAll c.toWc av H vs ds → ∀ Q : VK, (∀ z H' d, Same H H' → Da c.toWc av H' z d → k d n → Q z H') → r vs H Q
/-! ### operators -/
section
variable {X : Cx} {c : Fc} {n : Nat} {k : Dt → Prop}
def rAdd (K : PySem.W.Frag) : R2 := fun x y H Q => rI0 (fun i j => .int (i + j)) x y H Q ∨ (∃ i j, x = .str i ∧ y = .str j ∧ i.length + j.length ≤ sizeLine ∧ Q (.str (i ++ j)) H) ∨ rCat x y H Q ∨ rCatA K x y H Q
theorem o_add : OpR X (binaryOp .Add) (rAdd X.K) := OpR.or op_add (OpR.or op_add_str (OpR.or op_cat op_catA))
def rSub : R2 := rI0 fun i j => .int (i - j)
theorem o_sub : OpR X (binaryOp .Sub) rSub := op_sub
def rMul : R2 := fun x y H Q => rI CMul (fun i j => .int (i * j)) x y H Q ∨ rRep x y H Q
theorem o_mul : OpR X (binaryOp .Mult) rMul := OpR.or op_mul op_rep
def rMod : R2 := rI (fun _ j => 0 < j) fun i j => .int (i % j)
theorem o_mod : OpR X (binaryOp .Mod) rMod := op_mod
def rDiv : R2 := rI CDiv fun i j => .int (i / j)
theorem o_div : OpR X (binaryOp .FloorDiv) rDiv := op_fdiv
def rPow : R2 := rI CPow fun i j => .int (i ^ j.toNat)
theorem o_pow : OpR X (binaryOp .Pow) rPow := op_pow
def rLtS (f : List Nat → List Nat → Bool) : R2 := fun x y H Q => ∃ i j : Str, x = .str i ∧ y = .str j ∧ Q (.bl (f i.cps.toList j.cps.toList)) H
def rLt : R2 := fun x y H Q => rI0 (fun i j => .bl (decide (i < j))) x y H Q ∨ rLtS (fun a b => decide (a < b)) x y H Q
theorem o_lt : OpR X (compareOp .Lt) rLt := OpR.or op_lt op_lt_str
def rLe : R2 := rI0 fun i j => .bl (decide (i ≤ j))
theorem o_le : OpR X (compareOp .LtE) rLe := op_le
def rGt : R2 := rI0 fun i j => .bl (decide (j < i))
theorem o_gt : OpR X (compareOp .Gt) rGt := op_gt
def rGe : R2 := rI0 fun i j => .bl (decide (j ≤ i))
theorem o_ge : OpR X (compareOp .GtE) rGe := op_ge
/-- two lists of unlike lengths -/
def rLens (K : PySem.W.Frag) (b : Bool) : R2 := fun x y H Q => ∃ p q xs ys, x = .ref p ∧ y = .ref q ∧ SqL K H p xs ∧ SqL K H q ys ∧ xs.length ≠ ys.length ∧ Q (.bl b) H
theorem lens_ne {xs ys : List V} {us ws : List Value} (r1 : Vals xs us) (r2 : Vals ys ws) (h : xs.length ≠ ys.length) : (us.toArray.size != ws.toArray.size) = true := by
  rw [List.size_toArray, List.size_toArray, ← r1.length, ← r2.length]
  simpa using h
theorem o_eqLen (hu : X.A.units + 64 < cLine) : OpR X (compareOp .Eq) (rLens X.K false) := by
  intro pins s σ H x y v u Q I rx ry h
  obtain ⟨p, q, xs, ys, rfl, rfl, h1, h2, hne, hq⟩ := h
  cases rx
  cases ry
  obtain ⟨us, r1, p1, _⟩ := I.list h1
  obtain ⟨ws, r2, p2, _⟩ := I.list h2
  exact SeqAt.RcAt.lists_lengths p1.isList p2.isList (lens_ne r1 r2 hne) (by omega) _ _ _ _ ⟨.bl false, H, I, rfl, hq⟩
theorem o_neLen (hu : X.A.units + 64 < cLine) : OpR X (compareOp .NotEq) (rLens X.K true) := by
  intro pins s σ H x y v u Q I rx ry h
  obtain ⟨p, q, xs, ys, rfl, rfl, h1, h2, hne, hq⟩ := h
  cases rx
  cases ry
  obtain ⟨us, r1, p1, _⟩ := I.list h1
  obtain ⟨ws, r2, p2, _⟩ := I.list h2
  exact SeqAt.RcNeAt.lists_lengths p1.isList p2.isList (lens_ne r1 r2 hne) (by omega) _ _ _ _ ⟨.bl true, H, I, rfl, hq⟩
def rEqX (K : PySem.W.Frag) : R2 := fun x y H Q => rEq x y H Q ∨ rEqD K x y H Q ∨ rLens K false x y H Q
theorem o_eq (hu : X.A.units + 64 < cLine) : OpR X (compareOp .Eq) (rEqX X.K) := OpR.or op_eq (OpR.or (op_eqD hu) (o_eqLen hu))
def rNeX (K : PySem.W.Frag) : R2 := fun x y H Q => rNe x y H Q ∨ rNeD K x y H Q ∨ rLens K true x y H Q
theorem o_ne (hu : X.A.units + 64 < cLine) : OpR X (compareOp .NotEq) (rNeX X.K) := OpR.or op_ne (OpR.or (op_neD hu) (o_neLen hu))
def rSg (neg : Bool) : R2 := fun x y H Q => ∃ (s : Nat) (z : Str), x = .str ⟨#[s]⟩ ∧ y = .str z ∧ Q (.bl (if neg then !decide (s ∈ z.cps.toList) else decide (s ∈ z.cps.toList))) H
def rInX (K : PySem.W.Frag) (neg : Bool) : R2 := fun x y H Q => rSg neg x y H Q ∨ rIn K neg x y H Q
theorem o_in : OpR X (compareOp .In) (rInX X.K false) := OpR.or op_in_sign op_in_seq
theorem o_notIn : OpR X (compareOp .NotIn) (rInX X.K true) := OpR.or op_notIn_sign op_notIn_seq
def rIs : R2 := fun x y H Q => y = .non ∧ Q (.bl (decide (x = .non))) H
theorem o_is : OpR X (compareOp .Is) rIs := op_isN
def rIsNot : R2 := fun x y H Q => y = .non ∧ Q (.bl (!decide (x = .non))) H
theorem o_isNot : OpR X (compareOp .IsNot) rIsNot := op_notN

/-! their readings over data -/
theorem r_addI {i j : Int} (h : k (.int (i + j))) : R2D c n (rAdd c.K) (.int i) (.int j) k := by
  intro av H x y lv pa h1 h2 Q q
  cases h1; cases h2
  exact .inl ⟨i, j, rfl, rfl, q _ H _ (Same.refl H) (.int _) h⟩
theorem r_addS {i j : Str} (hz : szOk (i.length + j.length) = true) (h : k (.str (i ++ j))) : R2D c n (rAdd c.K) (.str i) (.str j) k := by
  intro av H x y lv pa h1 h2 Q q
  cases h1; cases h2
  exact .inr (.inl ⟨i, j, rfl, rfl, szl hz, q _ H _ (Same.refl H) (.str _) h⟩)
theorem r_addL {ds es : List Dt} (hz : szOk (ds.length + es.length) = true) (h : k (.lst (ds ++ es))) : R2D c n (rAdd c.K) (.lst ds) (.lst es) k := by
  intro av H x y lv pa h1 h2 Q q
  cases h1 with
  | lst a1 a2 a3 =>
    cases h2 with
    | lst b1 b2 b3 =>
      refine .inr (.inr (.inl ⟨_, _, _, _, rfl, rfl, a2, b2, by rw [a3.length, b3.length]; exact szl hz, fun p hp => ?_⟩))
      exact q _ _ _ (same_new hp) (Da.newL lv hp (a3.append b3)) h
theorem r_addT {ds es : List Dt} (hz : szOk (ds.length + es.length) = true) (h : k (.tup (ds ++ es))) : R2D c n (rAdd c.K) (.tup ds) (.tup es) k := by
  intro av H x y lv pa h1 h2 Q q
  cases h1 with
  | tup a2 a3 =>
    cases h2 with
    | tup b2 b3 =>
      refine .inr (.inr (.inr ⟨_, _, _, _, rfl, rfl, a2.sq, b2.sq, by rw [a3.length, b3.length]; exact szl hz, fun z => ?_, fun z1 z2 => ?_, fun z1 z2 p hp => ?_⟩))
      · subst z
        cases a3
        exact q _ H _ (Same.refl H) (.tup b2 b3) h
      · subst z2
        cases b3
        rw [List.append_nil] at h
        exact q _ H _ (Same.refl H) (.tup a2 a3) h
      · exact q _ _ _ (same_new hp) (Da.newT lv hp (a3.append b3)) h
theorem r_subI {i j : Int} (h : k (.int (i - j))) : R2D c n rSub (.int i) (.int j) k := by
  intro av H x y lv pa h1 h2 Q q
  cases h1; cases h2
  exact ⟨i, j, rfl, rfl, q _ H _ (Same.refl H) (.int _) h⟩
theorem r_mulI {i j : Int} (hm : CMul i j) (h : k (.int (i * j))) : R2D c n rMul (.int i) (.int j) k := by
  intro av H x y lv pa h1 h2 Q q
  cases h1; cases h2
  exact .inl ⟨i, j, rfl, rfl, hm, q _ H _ (Same.refl H) (.int _) h⟩
theorem r_mulL {ds : List Dt} {m : Int} (h0 : -(2 ^ 63) ≤ m) (h1 : m < 2 ^ 63) (hz : szOk (ds.length * m.toNat) = true) (h : k (.lst (List.replicate m.toNat ds).flatten)) : R2D c n rMul (.lst ds) (.int m) k := by
  intro av H x y lv pa a b Q q
  cases b
  cases a with
  | lst a1 a2 a3 =>
    refine .inr ⟨_, m, _, rfl, rfl, a2, h0, h1, by rw [a3.length]; exact szl hz, fun p hp => ?_⟩
    exact q _ _ _ (same_new hp) (Da.newL lv hp (a3.rep _)) h
theorem r_modI {i j : Int} (hj : 0 < j) (h : k (.int (i % j))) : R2D c n rMod (.int i) (.int j) k := by
  intro av H x y lv pa h1 h2 Q q
  cases h1; cases h2
  exact ⟨i, j, rfl, rfl, hj, q _ H _ (Same.refl H) (.int _) h⟩
theorem r_divI {i j : Int} (hj : 0 < j ∧ j < 1073741824) (h : k (.int (i / j))) : R2D c n rDiv (.int i) (.int j) k := by
  intro av H x y lv pa h1 h2 Q q
  cases h1; cases h2
  exact ⟨i, j, rfl, rfl, hj, q _ H _ (Same.refl H) (.int _) h⟩
theorem r_powI {i j : Int} (hj : 0 ≤ j ∧ j ≤ 1000000 ∧ i.natAbs < 2 ^ 64) (h : k (.int (i ^ j.toNat))) : R2D c n rPow (.int i) (.int j) k := by
  intro av H x y lv pa h1 h2 Q q
  cases h1; cases h2
  exact ⟨i, j, rfl, rfl, hj, q _ H _ (Same.refl H) (.int _) h⟩
theorem r_ltI {i j : Int} (h : k (.bl (decide (i < j)))) : R2D c n rLt (.int i) (.int j) k := by
  intro av H x y lv pa h1 h2 Q q
  cases h1; cases h2
  exact .inl ⟨i, j, rfl, rfl, q _ H _ (Same.refl H) (.bl _) h⟩
theorem r_ltS {i j : Str} (h : k (.bl (decide (i.cps.toList < j.cps.toList)))) : R2D c n rLt (.str i) (.str j) k := by
  intro av H x y lv pa h1 h2 Q q
  cases h1; cases h2
  exact .inr ⟨i, j, rfl, rfl, q _ H _ (Same.refl H) (.bl _) h⟩
theorem r_leI {i j : Int} (h : k (.bl (decide (i ≤ j)))) : R2D c n rLe (.int i) (.int j) k := by
  intro av H x y lv pa h1 h2 Q q
  cases h1; cases h2
  exact ⟨i, j, rfl, rfl, q _ H _ (Same.refl H) (.bl _) h⟩
theorem r_gtI {i j : Int} (h : k (.bl (decide (j < i)))) : R2D c n rGt (.int i) (.int j) k := by
  intro av H x y lv pa h1 h2 Q q
  cases h1; cases h2
  exact ⟨i, j, rfl, rfl, q _ H _ (Same.refl H) (.bl _) h⟩
theorem r_geI {i j : Int} (h : k (.bl (decide (j ≤ i)))) : R2D c n rGe (.int i) (.int j) k := by
  intro av H x y lv pa h1 h2 Q q
  cases h1; cases h2
  exact ⟨i, j, rfl, rfl, q _ H _ (Same.refl H) (.bl _) h⟩
/-! plain data and the model's own -/
mutual
def Dt.py : Dt → Option PyData
  | .non => some .none
  | .bl b => some (.bool b)
  | .int i => some (.int i)
  | .str x => some (.str x)
  | .lst xs => (Dt.pyAll xs).map PyData.list
  | .tup xs => (Dt.pyAll xs).map PyData.tuple
  | _ => none
def Dt.pyAll : List Dt → Option (List PyData)
  | [] => some []
  | d :: ds => (Dt.py d).bind fun x => (Dt.pyAll ds).map fun xs => x :: xs
end
mutual
theorem Da.dp {c : Wc} {av : Addr → Prop} {H : Hp} : ∀ (d : Dt) (v : V) (e : PyData), Da c av H v d → d.py = some e → Dp c.K H v e
  | .non, _, _, h, q => by cases h; cases q; exact .non
  | .bl _, _, _, h, q => by cases h; cases q; exact .bl _
  | .int _, _, _, h, q => by cases h; cases q; exact .int _
  | .str _, _, _, h, q => by cases h; cases q; exact .str _
  | .lst ds, _, e, h, q => by
    cases h with
    | lst h1 h2 h3 =>
      have q' : (Dt.pyAll ds).map PyData.list = some e := q
      obtain ⟨es, q1, q2⟩ := Option.map_eq_some_iff.mp q'
      subst q2
      exact .lst (SqL.of h2) (DaAll.dp ds _ es h3 q1)
  | .tup ds, _, e, h, q => by
    cases h with
    | tup h2 h3 =>
      have q' : (Dt.pyAll ds).map PyData.tuple = some e := q
      obtain ⟨es, q1, q2⟩ := Option.map_eq_some_iff.mp q'
      subst q2
      exact .tup h2.sq (DaAll.dp ds _ es h3 q1)
  | .dic _ _, _, _, _, q => by cases q
  | .obj _ _ _, _, _, _, q => by cases q
  | .err _ _ _, _, _, _, q => by cases q
  | .pen, _, _, _, q => by cases q
  | .cls _, _, _, _, q => by cases q
  | .rf _, _, _, _, q => by cases q
theorem DaAll.dp {c : Wc} {av : Addr → Prop} {H : Hp} : ∀ (ds : List Dt) (vs : List V) (es : List PyData), DaAll c av H vs ds → Dt.pyAll ds = some es → DpAll c.K H vs es
  | [], _, _, h, q => by cases h; cases q; exact .nil
  | d :: ds, _, es, h, q => by
    cases h with
    | cons h1 h2 =>
      have q' : ((Dt.py d).bind fun x => (Dt.pyAll ds).map fun xs => x :: xs) = some es := q
      obtain ⟨x, q1, q2⟩ := Option.bind_eq_some_iff.mp q'
      obtain ⟨xs, q3, q4⟩ := Option.map_eq_some_iff.mp q2
      subst q4
      exact .cons (Da.dp d _ x h1 q1) (DaAll.dp ds _ xs h2 q3)
end
def scalD : Dt → Dt → Bool
  | .non, .non => true | .non, .int _ => true | .int _, .non => true | .non, .bl _ => true | .bl _, .non => true | .non, .str _ => true | .str _, .non => true
  | .int _, .int _ => true | .bl _, .bl _ => true | .str _, .str _ => true
  | .int _, .str _ => true | .str _, .int _ => true | .bl _, .str _ => true | .str _, .bl _ => true
  | _, _ => false
def sameD : Dt → Dt → Bool
  | .non, .non => true
  | .int i, .int j => decide (i = j)
  | .bl i, .bl j => decide (i = j)
  | .str i, .str j => decide (i = j)
  | _, _ => false
theorem scalD_ok {c : Wc} {av : Addr → Prop} {H : Hp} {d e : Dt} {x y : V} (hs : scalD d e = true) (h1 : Da c av H x d) (h2 : Da c av H y e) : scal x y = true ∧ decide (x = y) = sameD d e := by
  cases h1 <;> cases h2 <;> first
    | exact ⟨rfl, rfl⟩
    | (exfalso; exact absurd hs Bool.false_ne_true)
    | (refine ⟨rfl, ?_⟩; simp [sameD])
theorem r_eqC {d e : Dt} (hs : scalD d e = true) (h : k (.bl (sameD d e))) : R2D c n (rEqX c.K) d e k := by
  intro av H x y lv pa h1 h2 Q q
  obtain ⟨z1, z2⟩ := scalD_ok hs h1 h2
  exact .inl ⟨z1, by rw [z2]; exact q _ H _ (Same.refl H) (.bl _) h⟩
theorem r_neC {d e : Dt} (hs : scalD d e = true) (h : k (.bl (!sameD d e))) : R2D c n (rNeX c.K) d e k := by
  intro av H x y lv pa h1 h2 Q q
  obtain ⟨z1, z2⟩ := scalD_ok hs h1 h2
  exact .inl ⟨z1, by rw [z2]; exact q _ H _ (Same.refl H) (.bl _) h⟩
theorem r_eqD {d e : Dt} {d' e' : PyData} (h1 : d.py = some d') (h2 : e.py = some e') (s1 : SeqAt.shaped d' = true) (s2 : SeqAt.shaped e' = true) (h : k (.bl (PyData.eqv d' e'))) : R2D c n (rEqX c.K) d e k := by
  intro av H x y lv pa a b Q q
  exact .inr (.inl ⟨d', e', Da.dp d x d' a h1, Da.dp e y e' b h2, s1, s2, q _ H _ (Same.refl H) (.bl _) h⟩)
theorem r_neD {d e : Dt} {d' e' : PyData} (h1 : d.py = some d') (h2 : e.py = some e') (s1 : SeqAt.shaped d' = true) (s2 : SeqAt.shaped e' = true) (h : k (.bl (!PyData.eqv d' e'))) : R2D c n (rNeX c.K) d e k := by
  intro av H x y lv pa a b Q q
  exact .inr (.inl ⟨d', e', Da.dp d x d' a h1, Da.dp e y e' b h2, s1, s2, q _ H _ (Same.refl H) (.bl _) h⟩)
theorem r_eqNil {ds : List Dt} (h : k (.bl ds.isEmpty)) : R2D c n (rEqX c.K) (.lst ds) (.lst []) k := by
  cases ds with
  | nil => exact r_eqD (d' := .list []) (e' := .list []) rfl rfl rfl rfl h
  | cons e es =>
    intro av H x y lv pa h1 h2 Q q
    cases h1 with
    | lst a1 a2 a3 =>
      cases h2 with
      | lst b1 b2 b3 =>
        exact .inr (.inr ⟨_, _, _, _, rfl, rfl, SqL.of a2, SqL.of b2, by rw [a3.length, b3.length]; simp, q _ H _ (Same.refl H) (.bl _) h⟩)
theorem r_neNilD {ds : List Dt} (h : k (.bl (!ds.isEmpty))) : R2D c n (rNeX c.K) (.lst ds) (.lst []) k := by
  cases ds with
  | nil => exact r_neD (d' := .list []) (e' := .list []) rfl rfl rfl rfl h
  | cons e es =>
    intro av H x y lv pa h1 h2 Q q
    cases h1 with
    | lst a1 a2 a3 =>
      cases h2 with
      | lst b1 b2 b3 =>
        exact .inr (.inr ⟨_, _, _, _, rfl, rfl, SqL.of a2, SqL.of b2, by rw [a3.length, b3.length]; simp, q _ H _ (Same.refl H) (.bl _) h⟩)
theorem r_isN {d : Dt} {b : Bool} (hb : (match d with | .non => true | _ => false) = b) (h : k (.bl b)) : R2D c n rIs d .non k := by
  intro av H x y lv pa h1 h2 Q q
  cases h2
  refine ⟨rfl, ?_⟩
  have e : decide (x = .non) = b := by
    subst hb
    cases h1 <;> first | rfl | (simp)
  rw [e]
  exact q _ H _ (Same.refl H) (.bl _) h
theorem r_notN {d : Dt} {b : Bool} (hb : (match d with | .non => false | _ => true) = b) (h : k (.bl b)) : R2D c n rIsNot d .non k := by
  intro av H x y lv pa h1 h2 Q q
  cases h2
  refine ⟨rfl, ?_⟩
  have e : (!decide (x = .non)) = b := by
    subst hb
    cases h1 <;> first | rfl | (simp)
  rw [e]
  exact q _ H _ (Same.refl H) (.bl _) h
theorem r_inS {s : Nat} {z : Str} {neg : Bool} (h : k (.bl (if neg then !decide (s ∈ z.cps.toList) else decide (s ∈ z.cps.toList)))) : R2D c n (rInX c.K neg) (.str ⟨#[s]⟩) (.str z) k := by
  intro av H x y lv pa h1 h2 Q q
  cases h1; cases h2
  exact .inl ⟨s, z, rfl, rfl, q _ H _ (Same.refl H) (.bl _) h⟩
def flatD : Dt → Bool
  | .non => true | .bl _ => true | .int _ => true | .str _ => true | _ => false
def eqvD : Dt → Dt → Bool
  | .non, .non => true
  | .bl a, .bl b => a == b
  | .bl a, .int b => (if a then 1 else 0) == b
  | .int a, .bl b => a == (if b then 1 else 0)
  | .int a, .int b => a == b
  | .str a, .str b => a == b
  | _, _ => false
theorem flatD_ok {c : Wc} {av : Addr → Prop} {H : Hp} {d : Dt} {x : V} (hs : flatD d = true) (h : Da c av H x d) : flatV x = true := by
  cases h <;> first | rfl | (exact absurd hs Bool.false_ne_true)
theorem eqvD_ok {c : Wc} {av : Addr → Prop} {H : Hp} {d e : Dt} {x y : V} (hd : flatD d = true) (he : flatD e = true) (h1 : Da c av H x d) (h2 : Da c av H y e) : eqV x y = eqvD d e := by
  cases h1 <;> first
    | (exact absurd hd Bool.false_ne_true)
    | (cases h2 <;> first | rfl | (exact absurd he Bool.false_ne_true))
theorem inD_ok {c : Wc} {av : Addr → Prop} {H : Hp} {d : Dt} {x : V} (hd : flatD d = true) (h1 : Da c av H x d) : ∀ {vs : List V} {ds : List Dt}, DaAll c av H vs ds → ds.all flatD = true → vs.all flatV = true ∧ inV x vs = ds.any fun e => eqvD e d
  | _, _, .nil, _ => ⟨rfl, rfl⟩
  | _, _, .cons h t, ha => by
    rw [List.all_cons, Bool.and_eq_true] at ha
    obtain ⟨z1, z2⟩ := inD_ok hd h1 t ha.2
    refine ⟨by rw [List.all_cons, flatD_ok ha.1 h, z1]; rfl, ?_⟩
    unfold inV at z2 ⊢
    rw [List.any_cons, List.any_cons, eqvD_ok ha.1 hd h h1, z2]
theorem r_inT {d : Dt} {ds : List Dt} {neg : Bool} (hd : flatD d = true) (ha : ds.all flatD = true) (h : k (.bl (if neg then !(ds.any fun e => eqvD e d) else ds.any fun e => eqvD e d))) : R2D c n (rInX c.K neg) d (.tup ds) k := by
  intro av H x y lv pa h1 h2 Q q
  cases h2 with
  | tup b2 b3 =>
    obtain ⟨z1, z2⟩ := inD_ok hd h1 b3 ha
    refine .inr ⟨_, _, rfl, .inr b2.sq, flatD_ok hd h1, z1, ?_⟩
    rw [z2]
    exact q _ H _ (Same.refl H) (.bl _) h
theorem r_inL {d : Dt} {ds : List Dt} {neg : Bool} (hd : flatD d = true) (ha : ds.all flatD = true) (h : k (.bl (if neg then !(ds.any fun e => eqvD e d) else ds.any fun e => eqvD e d))) : R2D c n (rInX c.K neg) d (.lst ds) k := by
  intro av H x y lv pa h1 h2 Q q
  cases h2 with
  | lst b1 b2 b3 =>
    obtain ⟨z1, z2⟩ := inD_ok hd h1 b3 ha
    refine .inr ⟨_, _, rfl, .inl (SqL.of b2), flatD_ok hd h1, z1, ?_⟩
    rw [z2]
    exact q _ H _ (Same.refl H) (.bl _) h
end
end Pb
namespace Pb
open PySem PySem.Spec PyProof.Rows L2

/-! ### items and slices -/
section
variable {X : Cx} {c : Fc} {k : Dt → Prop} {n : Nat}
theorem DaAll.atI {c : Wc} {av : Addr → Prop} {H : Hp} {vs : List V} {ds : List Dt} {i : Int} {d : Dt} (h : DaAll c av H vs ds) (e : atI ds i = some d) : ∃ v, atI vs i = some v ∧ Da c av H v d := by
  unfold L2.atI at e ⊢
  rw [h.length]
  obtain ⟨j, e1, e2⟩ := Option.bind_eq_some_iff.mp e
  obtain ⟨v, h1, h2⟩ := h.get e2
  exact ⟨v, by rw [e1]; exact h1, h2⟩
theorem r_ixL {ds : List Dt} {i : Int} {d : Dt} (e : atI ds i = some d) (h : k d) : R2D c n (rIx c.K) (.lst ds) (.int i) k := by
  intro av H x y lv pa a b Q q
  cases b
  cases a with
  | lst a1 a2 a3 =>
    obtain ⟨v, h1, h2⟩ := a3.atI e
    exact .inl ⟨_, _, i, v, rfl, rfl, SqL.of a2, h1, q _ H _ (Same.refl H) h2 h⟩
theorem r_ixT {ds : List Dt} {i : Int} {d : Dt} (e : atI ds i = some d) (h : k d) : R2D c n (rIx c.K) (.tup ds) (.int i) k := by
  intro av H x y lv pa a b Q q
  cases b
  cases a with
  | tup a2 a3 =>
    obtain ⟨v, h1, h2⟩ := a3.atI e
    exact .inr (.inl ⟨_, _, i, v, rfl, rfl, a2.sq, h1, q _ H _ (Same.refl H) h2 h⟩)
theorem r_ixS {z : Str} {i : Int} {s : Nat} (hz : szOk z.length = true) (e : atI z.cps.toList i = some s) (h : k (.str ⟨#[s]⟩)) : R2D c n (rIx c.K) (.str z) (.int i) k := by
  intro av H x y lv pa a b Q q
  cases a; cases b
  exact .inr (.inr ⟨z, i, s, rfl, rfl, szl hz, e, q _ H _ (Same.refl H) (.str _) h⟩)
end
def Wo (c : Fc) (Γ : List Sl) (n : Cs) (to : TO) (k : Option Int → Cs → Prop) : Prop := ∀ y ρ σ H, SS (c.at_ y) ρ Γ n σ H → ∀ Q : Option Int → Hp → Prop, (∀ m b H' n', SS (c.at_ ⟨m, y.ap⟩) ρ Γ n' σ H' → Sx c.a y H ⟨m, y.ap⟩ H' → k b n' → Q b H') → to σ H Q
section
variable {c : Fc} {Γ : List Sl} {n : Cs} {k : Option Int → Cs → Prop}
theorem wo_none (h : k none n) : Wo c Γ n tNoPart k := fun y ρ σ H S Q q => q y.m _ H n S Sx.refl h
theorem wo_some {te : TE} (h : We c Γ n te fun d m => ∃ i, d = .int i ∧ k (some i) m) : Wo c Γ n (tPart te) k := by
  intro y ρ σ H S Q q
  refine h y ρ σ H S _ fun m x H1 d1 n1 S1 x1 h1 k1 => ?_
  obtain ⟨i, rfl, k1⟩ := k1
  cases h1
  exact ⟨i, rfl, q m _ H1 n1 S1 x1 k1⟩
theorem Wo.mono {to : TO} {k' : Option Int → Cs → Prop} (h : Wo c Γ n to k) (hk : ∀ d m, k d m → k' d m) : Wo c Γ n to k' := fun y ρ σ H S Q q => h y ρ σ H S Q fun m b H' n' S' x kk => q m b H' n' S' x (hk _ _ kk)
end
section
variable {X : Cx} {c : Fc} {k : Dt → Prop} {n : Nat}
def cutG {α : Type} (xs : List α) (lo hi : Option Int) : List α := (xs.drop (HT.sIx xs.length 0 lo)).take (HT.sIx xs.length xs.length hi - HT.sIx xs.length 0 lo)
def rSl (K : PySem.W.Frag) : V → Option Int → Option Int → Hp → VK → Prop := fun x lo hi H Q => rSlL K x lo hi H Q ∨ rSlA K x lo hi H Q ∨ rSlS x lo hi H Q
theorem sl_any : SlR X (rSl X.K) := SlR.or sl_list (SlR.or sl_tupA sl_str)
def RSD (c : Fc) (r : V → Option Int → Option Int → Hp → VK → Prop) (d : Dt) (lo hi : Option Int) (k : Dt → Prop) : Prop := ∀ av H x, Live av H → av c.a → Da c.toWc av H x d → ∀ Q : VK, (∀ z H' d, Same H H' → Da c.toWc av H' z d → k d → Q z H') → r x lo hi H Q
theorem DaAll.cut {c : Wc} {av : Addr → Prop} {H : Hp} {vs : List V} {ds : List Dt} (h : DaAll c av H vs ds) (lo hi : Option Int) : DaAll c av H (cutV vs lo hi) (cutG ds lo hi) := by
  unfold cutV cutG
  rw [h.length]
  exact (h.drop _).take _
theorem cutG_whole {α : Type} (xs : List α) (lo hi : Option Int) (h : HT.sIx xs.length 0 lo = 0 ∧ HT.sIx xs.length xs.length hi = xs.length) : cutG xs lo hi = xs := by
  unfold cutG
  rw [h.1, h.2, List.drop_zero, Nat.sub_zero, List.take_length]
theorem s_lst {ds : List Dt} {lo hi : Option Int} (h : k (.lst (cutG ds lo hi))) : RSD c (rSl c.K) (.lst ds) lo hi k := by
  intro av H x lv pa a Q q
  cases a with
  | lst a1 a2 a3 => exact .inl ⟨_, _, rfl, SqL.of a2, fun p hp => q _ _ _ (same_new hp) (Da.newL lv hp (a3.cut lo hi)) h⟩
theorem s_tup {ds : List Dt} {lo hi : Option Int} (h : k (.tup (cutG ds lo hi))) : RSD c (rSl c.K) (.tup ds) lo hi k := by
  intro av H x lv pa a Q q
  cases a with
  | tup a2 a3 =>
    refine .inr (.inl ⟨_, _, rfl, a2.sq, fun z => ?_, fun z p hp => q _ _ _ (same_new hp) (Da.newT lv hp (a3.cut lo hi)) h⟩)
    rw [a3.length] at z
    rw [cutG_whole _ _ _ z] at h
    exact q _ H _ (Same.refl H) (.tup a2 a3) h
theorem s_str {z : Str} {lo hi : Option Int} (hz : szOk z.length = true) (h : k (.str (cutS z lo hi))) : RSD c (rSl c.K) (.str z) lo hi k := by
  intro av H x lv pa a Q q
  cases a
  exact .inr (.inr ⟨z, rfl, szl hz, q _ H _ (Same.refl H) (.str _) h⟩)
end

/-! ### built-ins -/
section
variable {X : Cx} {c : Fc} {k : Dt → Nat → Prop} {n : Nat}
/-- an answer that changes nothing -/
theorem rc_pure {r : List V → Hp → VK → Prop} {ds : List Dt} (h : ∀ av H vs, Live av H → av c.a → DaAll c.toWc av H vs ds → ∀ Q : VK, (∀ z H' d, Same H H' → Da c.toWc av H' z d → k d n → Q z H') → r vs H Q) : RCD c r ds n k := h
def rLen (K : PySem.W.Frag) : List V → Hp → VK → Prop := fun xs H Q => (∃ x n, xs = [x] ∧ LenV K x H n ∧ Q (.int n) H) ∨ (∃ a kvs, xs = [V.ref a] ∧ H a = some (.dK kvs) ∧ Q (.int kvs.length) H)
theorem b_len : CallR X (.builtin "len") (rLen X.K) := CallR.or call_len call_lenD
theorem c_lenL {ds : List Dt} (h : k (.int ds.length) n) : RCD c (rLen c.K) [.lst ds] n k := rc_pure fun av H vs lv pa da Q q => by
  cases da with
  | cons h1 h2 =>
    cases h2
    cases h1 with
    | lst a1 a2 a3 => exact .inl ⟨_, _, rfl, .inl ⟨_, SqL.of a2, rfl⟩, q _ H (.int ds.length) (Same.refl H) (by rw [a3.length]; exact .int _) h⟩
theorem c_lenT {ds : List Dt} (h : k (.int ds.length) n) : RCD c (rLen c.K) [.tup ds] n k := rc_pure fun av H vs lv pa da Q q => by
  cases da with
  | cons h1 h2 =>
    cases h2
    cases h1 with
    | tup a2 a3 => exact .inl ⟨_, _, rfl, .inr ⟨_, a2.sq, rfl⟩, q _ H (.int ds.length) (Same.refl H) (by rw [a3.length]; exact .int _) h⟩
theorem c_lenS {z : Str} (hz : szOk z.length = true) (h : k (.int z.length) n) : RCD c (rLen c.K) [.str z] n k := rc_pure fun av H vs lv pa da Q q => by
  cases da with
  | cons h1 h2 =>
    cases h2; cases h1
    exact .inl ⟨_, _, rfl, ⟨szl hz, rfl⟩, q _ H (.int z.length) (Same.refl H) (.int _) h⟩
theorem c_lenD {ks : List Key} {ds : List Dt} (h : k (.int ks.length) n) : RCD c (rLen c.K) [.dic ks ds] n k := rc_pure fun av H vs lv pa da Q q => by
  cases da with
  | cons h1 h2 =>
    cases h2
    cases h1 with
    | dic a1 a2 a3 a4 =>
      refine .inr ⟨_, _, rfl, a2, q _ H (.int ks.length) (Same.refl H) ?_ h⟩
      rw [← a3, List.length_map]
      exact .int _
def rAbs : List V → Hp → VK → Prop := fun xs H Q => ∃ i, xs = [.int i] ∧ Q (.int (if i < 0 then -i else i)) H
theorem b_abs : CallR X (.builtin "abs") rAbs := call_abs
theorem c_abs {i : Int} (h : k (.int (if i < 0 then -i else i)) n) : RCD c rAbs [.int i] n k := rc_pure fun av H vs lv pa da Q q => by
  cases da with
  | cons h1 h2 => cases h2; cases h1; exact ⟨i, rfl, q _ H _ (Same.refl H) (.int _) h⟩
def rInt : List V → Hp → VK → Prop := fun xs H Q => ((∃ i, xs = [.int i] ∧ Q (.int i) H) ∨ ∃ k, xs = [.bl k] ∧ Q (.int (if k then 1 else 0)) H) ∨ ∃ a n, xs = [.str a] ∧ PySem.intText? a = some n ∧ a.length ≤ 640 ∧ Q (.int n) H
theorem b_int : CallR X (.type "int") rInt := CallR.or call_int1 call_int_str
theorem c_intI {i : Int} (h : k (.int i) n) : RCD c rInt [.int i] n k := rc_pure fun av H vs lv pa da Q q => by
  cases da with
  | cons h1 h2 => cases h2; cases h1; exact .inl (.inl ⟨i, rfl, q _ H _ (Same.refl H) (.int _) h⟩)
theorem c_intB {b : Bool} (h : k (.int (if b then 1 else 0)) n) : RCD c rInt [.bl b] n k := rc_pure fun av H vs lv pa da Q q => by
  cases da with
  | cons h1 h2 => cases h2; cases h1; exact .inl (.inr ⟨b, rfl, q _ H _ (Same.refl H) (.int _) h⟩)
theorem c_intS {z : Str} {i : Int} (e : PySem.intText? z = some i) (hz : z.length ≤ 640) (h : k (.int i) n) : RCD c rInt [.str z] n k := rc_pure fun av H vs lv pa da Q q => by
  cases da with
  | cons h1 h2 => cases h2; cases h1; exact .inr ⟨z, i, rfl, e, hz, q _ H _ (Same.refl H) (.int _) h⟩
def rList (K : PySem.W.Frag) : List V → Hp → VK → Prop := fun xs H Q => ∃ p ys, xs = [.ref p] ∧ (SqL K H p ys ∨ SqT K H p ys) ∧ ∀ l, H l = none → Q (.ref l) (upd H l (.lst ys))
theorem b_list : CallR X (.type "list") (rList X.K) := call_list_of
theorem c_listL {ds : List Dt} (h : k (.lst ds) n) : RCD c (rList c.K) [.lst ds] n k := rc_pure fun av H vs lv pa da Q q => by
  cases da with
  | cons h1 h2 =>
    cases h2
    cases h1 with
    | lst a1 a2 a3 => exact ⟨_, _, rfl, .inl (SqL.of a2), fun p hp => q _ _ _ (same_new hp) (Da.newL lv hp a3) h⟩
theorem c_listT {ds : List Dt} (h : k (.lst ds) n) : RCD c (rList c.K) [.tup ds] n k := rc_pure fun av H vs lv pa da Q q => by
  cases da with
  | cons h1 h2 =>
    cases h2
    cases h1 with
    | tup a2 a3 => exact ⟨_, _, rfl, .inr a2.sq, fun p hp => q _ _ _ (same_new hp) (Da.newL lv hp a3) h⟩
def rTuple (K : PySem.W.Frag) : List V → Hp → VK → Prop := fun xs H Q => ∃ p ys, xs = [.ref p] ∧ ((SqL K H p ys ∧ ∀ l, H l = none → Q (.ref l) (upd H l (.tup ys))) ∨ (SqT K H p ys ∧ Q (.ref p) H))
theorem b_tuple : CallR X (.type "tuple") (rTuple X.K) := call_tuple_of
theorem c_tupleL {ds : List Dt} (h : k (.tup ds) n) : RCD c (rTuple c.K) [.lst ds] n k := rc_pure fun av H vs lv pa da Q q => by
  cases da with
  | cons h1 h2 =>
    cases h2
    cases h1 with
    | lst a1 a2 a3 => exact ⟨_, _, rfl, .inl ⟨SqL.of a2, fun p hp => q _ _ _ (same_new hp) (Da.newT lv hp a3) h⟩⟩
theorem c_tupleT {ds : List Dt} (h : k (.tup ds) n) : RCD c (rTuple c.K) [.tup ds] n k := rc_pure fun av H vs lv pa da Q q => by
  cases da with
  | cons h1 h2 =>
    cases h2
    cases h1 with
    | tup a2 a3 => exact ⟨_, _, rfl, .inr ⟨a2.sq, q _ H _ (Same.refl H) (.tup a2 a3) h⟩⟩
def rStr : List V → Hp → VK → Prop := fun xs H Q => (∃ i, xs = [.int i] ∧ i.natAbs.log2 < 1920 ∧ Q (.str (toString i)) H) ∨ ∃ a, xs = [.str a] ∧ Q (.str a) H
theorem b_str : CallR X (.type "str") rStr := CallR.or call_str_int SkE.call_str_str
theorem c_strI {i : Int} (hz : i.natAbs.log2 < 1920) (h : k (.str (toString i)) n) : RCD c rStr [.int i] n k := rc_pure fun av H vs lv pa da Q q => by
  cases da with
  | cons h1 h2 => cases h2; cases h1; exact .inl ⟨i, rfl, hz, q _ H _ (Same.refl H) (.str _) h⟩
theorem c_strS {z : Str} (h : k (.str z) n) : RCD c rStr [.str z] n k := rc_pure fun av H vs lv pa da Q q => by
  cases da with
  | cons h1 h2 => cases h2; cases h1; exact .inr ⟨z, rfl, q _ H _ (Same.refl H) (.str _) h⟩
theorem b_all (hc : X.calm = true) : CallR X (.builtin "all") (rAll X.K) := cr_all hc
theorem b_any (hc : X.calm = true) : CallR X (.builtin "any") (rAny X.K) := cr_any hc
theorem c_all {bs : List Bool} (h : k (.bl (bs.all id)) n) : RCD c (rAll c.K) [.lst (bs.map Dt.bl)] n k := rc_pure fun av H vs lv pa da Q q => by
  cases da with
  | cons h1 h2 =>
    cases h2
    cases h1 with
    | lst a1 a2 a3 =>
      have e := a3.bls
      subst e
      exact ⟨_, bs, rfl, SqL.of a2, q _ H _ (Same.refl H) (.bl _) h⟩
/-! isinstance -/
inductive Tn where
  | none | bool | int | str | list | tuple | dict
def Tn.s : Tn → String
  | .none => "NoneType" | .bool => "bool" | .int => "int" | .str => "str" | .list => "list" | .tuple => "tuple" | .dict => "dict"
def Tn.sub : Tn → Tn → Bool
  | .none, .none => true
  | .bool, .bool => true
  | .bool, .int => true
  | .int, .int => true
  | .str, .str => true
  | .list, .list => true
  | .tuple, .tuple => true
  | .dict, .dict => true
  | _, _ => false
def Dt.tn : Dt → Option Tn
  | .non => some .none
  | .bl _ => some .bool
  | .int _ => some .int
  | .str _ => some .str
  | .lst _ => some .list
  | .tup _ => some .tuple
  | .dic _ _ => some .dict
  | _ => none
theorem kit_tn (a b : Tn) : kitB a.s b.s = some (a.sub b) ∨ b = .none := by
  cases b <;> first | (exact .inr rfl) | (left; cases a <;> decide +kernel)
theorem Da.ty {c : Wc} {av : Addr → Prop} {H : Hp} {d : Dt} {x : V} {t : Tn} (h : Da c av H x d) (e : d.tn = some t) : TyX c.K H x (.type t.s) := by
  cases h with
  | non => cases e; exact .base .non
  | bl b => cases e; exact .base (.bl b)
  | int i => cases e; exact .base (.int i)
  | str z => cases e; exact .base (.str z)
  | lst h1 h2 h3 => cases e; exact .base (.lst h2)
  | tup h2 h3 =>
    cases e
    rcases h2 with ⟨_, h2 | ⟨o, h2⟩⟩ | ⟨o, its, m, h2, h4, _⟩
    · exact .base (.tup h2)
    · exact .fTuple h2
    · exact .kTuple h2 h4
  | dic h1 h2 h3 h4 => cases e; exact .base (.dK h2)
  | obj => cases e
  | err _ _ _ _ => cases e
  | pen => cases e
  | cls _ => cases e
  | rf _ => cases e
end
/-! ### what a value is, its cell opened -/
def dr (s : List Dt) : Dt → Dt
  | .rf i => (s[i]?).getD (.rf i)
  | d => d
def Dt.atom : Dt → Bool
  | .non => true | .bl _ => true | .int _ => true | .str _ => true | _ => false
theorem Da.atom {c c' : Wc} {av av' : Addr → Prop} {H H' : Hp} {v : V} {d : Dt} (ha : d.atom = true) (h : Da c av H v d) : Da c' av' H' v d := by
  cases h <;> first | exact .non | exact .bl _ | exact .int _ | exact .str _ | (exact absurd ha Bool.false_ne_true)
/-- without the cells -/
def Wc.av0 (c : Wc) : Addr → Prop := fun p => p = c.a ∨ p ∈ c.y.ap
section
variable {c : Wc} {n : Cs} {H : Hp} {v : V} {d : Dt}
theorem Lay.dv (L : Lay c n H) (h : Da c c.av H v d) : Dv c c.av H v (dr n.s d) := by
  cases h with
  | @rf i p h1 =>
    have hi : i < n.s.length := by rw [L.len]; exact (List.getElem?_eq_some_iff.mp h1).1
    obtain ⟨vs, h3, h4⟩ := L.cel i _ p (List.getElem?_eq_getElem hi) h1
    show Dv c c.av H (.ref p) ((n.s[i]?).getD (.rf i))
    rw [List.getElem?_eq_getElem hi]
    exact h3.dv h4
  | non => exact .da .non
  | bl b => exact .da (.bl b)
  | int i => exact .da (.int i)
  | str x => exact .da (.str x)
  | lst h1 h2 h3 => exact .da (.lst h1 h2 h3)
  | tup h2 h3 => exact .da (.tup h2 h3)
  | dic h1 h2 h3 h4 => exact .da (.dic h1 h2 h3 h4)
  | obj h1 h2 h3 h4 h5 => exact .da (.obj h1 h2 h3 h4 h5)
  | err h1 h2 h3 h4 => exact .da (.err h1 h2 h3 h4)
  | pen => exact .da .pen
  | cls h1 => exact .da (.cls h1)
theorem Wc.av0_le {p : Addr} (h : c.av0 p) : c.av p := h.imp id .inr
theorem Lay.view (L : Lay c n H) (h : Da c c.av H v d) : Da c c.av0 H v (dr n.s d) := by
  have key := (L.dv h).free
  cases h with
  | @rf i p h1 =>
    refine key.less fun q z => ⟨Wc.av0_le z, fun e => ?_⟩
    injection e with e
    subst e
    rcases z with z | z
    · exact L.na.1 (z ▸ List.mem_of_getElem? h1)
    · exact L.dj p z (List.mem_of_getElem? h1)
  | non => exact .non
  | bl b => exact .bl b
  | int i => exact .int i
  | str x => exact .str x
  | lst h1 h2 h3 => exact (Da.lst h1 h2 h3).less fun q z => Wc.av0_le z
  | tup h2 h3 => exact (Da.tup h2 h3).less fun q z => Wc.av0_le z
  | dic h1 h2 h3 h4 => exact (Da.dic h1 h2 h3 h4).less fun q z => Wc.av0_le z
  | obj h1 h2 h3 h4 h5 => exact (Da.obj h1 h2 h3 h4 h5).less fun q z => Wc.av0_le z
  | err h1 h2 h3 h4 => exact (Da.err h1 h2 h3 h4).less fun q z => Wc.av0_le z
  | pen => exact .pen
  | cls h1 => exact .cls h1
theorem Lay.viewA (L : Lay c n H) : ∀ {vs : List V} {ds : List Dt}, DaAll c c.av H vs ds → DaAll c c.av0 H vs (ds.map (dr n.s))
  | _, _, .nil => .nil
  | _, _, .cons h t => .cons (L.view h) (L.viewA t)
theorem Lay.live0 (L : Lay c n H) : Live c.av0 H := fun p z => L.live p (Wc.av0_le z)
theorem Lay.pl0 (L : Lay c n H) : ¬ c.av0 c.l := fun z => L.pl (Wc.av0_le z)
end
/-- an operation with a plain answer -/
theorem r2_lift {c : Fc} {n : Cs} {r : R2} {d1 d2 x : Dt} {k : Dt → Prop} (h : ∀ y, R2D (c.at_ y) n.n r (dr n.s d1) (dr n.s d2) fun z => z = x) (hx : x.atom = true) (q : k x) : R2V c n r d1 d2 k := by
  intro y H a b L h1 h2 Q hQ
  refine h y _ H a b L.live0 ⟨.inl rfl, L.pl0, L.pen⟩ (L.view h1) (L.view h2) Q fun z H' d sm da e => ?_
  subst e
  exact hQ z H' d sm (da.atom hx) q
theorem r1_lift {c : Fc} {n : Cs} {r : V → Hp → VK → Prop} {d1 x : Dt} {k : Dt → Prop} (h : ∀ y, R1D (c.at_ y) r (dr n.s d1) fun z => z = x) (hx : x.atom = true) (q : k x) : R1V c n r d1 k := by
  intro y H a L h1 Q hQ
  refine h y _ H a L.live0 (.inl rfl) (L.view h1) Q fun z H' d sm da e => ?_
  subst e
  exact hQ z H' d sm (da.atom hx) q
theorem rp_lift {c : Fc} {n : Cs} {r : List V → Hp → VK → Prop} {ds : List Dt} {x : Dt} {k : Dt → Prop} (h : ∀ y, RCD (c.at_ y) r (ds.map (dr n.s)) n.n fun z _ => z = x) (hx : x.atom = true) (q : k x) : RPV c n r ds k := by
  intro y H vs L h1 Q hQ
  refine h y _ H vs L.live0 (.inl rfl) (L.viewA h1) Q fun z H' d sm da e => ?_
  subst e
  exact hQ z H' d sm (da.atom hx) q
/-! ### items of lists, tuples, dicts; sums of lists and tuples -/
section
variable {c : Fc} {k : Dt → Prop} {n : Cs} {d1 d2 : Dt}
theorem v_ixL {ds : List Dt} {i : Int} {d : Dt} (e1 : dr n.s d1 = .lst ds) (e2 : d2 = .int i) (e : atI ds i = some d) (h : k d) : R2V c n (rIx c.K) d1 d2 k := by
  intro y H a b L h1 h2 Q q
  have v1 := L.dv h1
  rw [e1] at v1
  subst e2
  cases h2
  obtain ⟨p, vs, rfl, h3, h4⟩ := v1.isL
  obtain ⟨v, h5, h6⟩ := h4.atI e
  exact .inl ⟨_, _, i, v, rfl, rfl, SqL.of h3, h5, q _ H _ (Same.refl H) h6 h⟩
theorem v_ixT {ds : List Dt} {i : Int} {d : Dt} (e1 : dr n.s d1 = .tup ds) (e2 : d2 = .int i) (e : atI ds i = some d) (h : k d) : R2V c n (rIx c.K) d1 d2 k := by
  intro y H a b L h1 h2 Q q
  have v1 := L.dv h1
  rw [e1] at v1
  subst e2
  cases h2
  obtain ⟨p, vs, rfl, h3, h4⟩ := v1.isT
  obtain ⟨v, h5, h6⟩ := h4.atI e
  exact .inr (.inl ⟨_, _, i, v, rfl, rfl, h3.sq, h5, q _ H _ (Same.refl H) h6 h⟩)
/-- the operation makes a new object -/
def R2N (c : Fc) (n : Cs) (r : R2) (d1 d2 : Dt) (k : Dt → Prop) : Prop := ∀ y H x z, Lay (c.toWc.at_ y) n H → Da (c.toWc.at_ y) (c.toWc.at_ y).av H x d1 → Da (c.toWc.at_ y) (c.toWc.at_ y).av H z d2 → ∀ Q : VK,
  (∀ p u ws d, H p = none → isT u = false → isC u = false → OwO c.toWc u ws d → DaAll (c.toWc.at_ y) (c.toWc.at_ y).av H ws d.kids → k d → Q (.ref p) (upd H p u)) → r x z H Q
theorem n_addL {ds es : List Dt} (e1 : dr n.s d1 = .lst ds) (e2 : dr n.s d2 = .lst es) (hz : szOk (ds.length + es.length) = true) (h : k (.lst (ds ++ es))) : R2N c n (rAdd c.K) d1 d2 k := by
  intro y H a b L h1 h2 Q q
  have v1 := L.dv h1
  have v2 := L.dv h2
  rw [e1] at v1
  rw [e2] at v2
  obtain ⟨p, vs, rfl, h3, h4⟩ := v1.isL
  obtain ⟨p2, vs2, rfl, h5, h6⟩ := v2.isL
  exact .inr (.inr (.inl ⟨_, _, _, _, rfl, rfl, h3, h5, by rw [h4.length, h6.length]; exact szl hz, fun p hp => q p _ _ (.lst (ds ++ es)) hp rfl rfl rfl (h4.append h6) h⟩))
theorem v_addT {ds es : List Dt} (e1 : dr n.s d1 = .tup ds) (e2 : dr n.s d2 = .tup es) (hz : szOk (ds.length + es.length) = true) (h : k (.tup (ds ++ es))) : R2V c n (rAdd c.K) d1 d2 k := by
  intro y H a b L h1 h2 Q q
  have v1 := L.dv h1
  have v2 := L.dv h2
  rw [e1] at v1
  rw [e2] at v2
  obtain ⟨p, vs, rfl, h3, h4⟩ := v1.isT
  obtain ⟨p2, vs2, rfl, h5, h6⟩ := v2.isT
  refine .inr (.inr (.inr ⟨_, _, _, _, rfl, rfl, h3.sq, h5.sq, by rw [h4.length, h6.length]; exact szl hz, fun z => ?_, fun z1 z2 => ?_, fun z1 z2 p hp => ?_⟩))
  · subst z
    cases h4
    exact q _ H _ (Same.refl H) (.tup h5 h6) h
  · subst z2
    cases h6
    rw [List.append_nil] at h
    exact q _ H _ (Same.refl H) (.tup h3 h4) h
  · exact q _ _ _ (same_new hp) (Da.newT L.live hp (h4.append h6)) h
end
/-- slices of values as they stand -/
def RSV (c : Fc) (n : Cs) (r : V → Option Int → Option Int → Hp → VK → Prop) (d : Dt) (lo hi : Option Int) (k : Dt → Prop) : Prop := ∀ y H x, Lay (c.toWc.at_ y) n H → Da (c.toWc.at_ y) (c.toWc.at_ y).av H x d → ∀ Q : VK, (∀ w H' d, Same H H' → Da (c.toWc.at_ y) (c.toWc.at_ y).av H' w d → k d → Q w H') → r x lo hi H Q
def RSN (c : Fc) (n : Cs) (r : V → Option Int → Option Int → Hp → VK → Prop) (d : Dt) (lo hi : Option Int) (k : Dt → Prop) : Prop := ∀ y H x, Lay (c.toWc.at_ y) n H → Da (c.toWc.at_ y) (c.toWc.at_ y).av H x d → ∀ Q : VK,
  (∀ p u ws d, H p = none → isT u = false → isC u = false → OwO c.toWc u ws d → DaAll (c.toWc.at_ y) (c.toWc.at_ y).av H ws d.kids → k d → Q (.ref p) (upd H p u)) → r x lo hi H Q
section
variable {c : Fc} {Γ : List Sl} {n : Cs} {k : Kd} {kd : Dt → Prop} {te : TE} {tl th : TO} {r : V → Option Int → Option Int → Hp → VK → Prop}
theorem w_sl (h : We c Γ n te fun d n1 => Wo c Γ n1 tl fun lo n2 => Wo c Γ n2 th fun hi n3 => RSV c n3 r d lo hi fun d => k d n3) : We c Γ n (tSl r te tl th) k := by
  intro y ρ σ H S Q q
  refine h y ρ σ H S _ fun m1 x H1 d1 n1 S1 x1 h1 k1 => ?_
  refine k1 _ ρ σ H1 S1 _ fun m2 lo H2 n2 S2 x2 k2 => ?_
  refine k2 _ ρ σ H2 S2 _ fun m3 hi H3 n3 S3 x3 k3 => ?_
  refine k3 _ H3 x S3.lay ((h1.sx x2).sx x3) Q fun w H4 d x4 h4 k4 => ?_
  have S4 := S3.same x4
  exact q m3 w H4 d n3 S4 (stp2 (stp2 (stp2 x1 x2 S2) x3 S3) (Sx.same x4) S4) h4 k4
theorem wn_sl (h : We c Γ n te fun d n1 => Wo c Γ n1 tl fun lo n2 => Wo c Γ n2 th fun hi n3 => RSN c n3 r d lo hi fun d => k d n3) : Wn c Γ n (tSl r te tl th) k := by
  intro y ρ σ H S Q q
  refine h y ρ σ H S _ fun m1 x H1 d1 n1 S1 x1 h1 k1 => ?_
  refine k1 _ ρ σ H1 S1 _ fun m2 lo H2 n2 S2 x2 k2 => ?_
  refine k2 _ ρ σ H2 S2 _ fun m3 hi H3 n3 S3 x3 k3 => ?_
  refine k3 _ H3 x S3.lay ((h1.sx x2).sx x3) Q fun p u ws d hp t1 t2 ow da k4 => ?_
  exact wn_mk (y := y) S3 (stp2 (stp2 x1 x2 S2) x3 S3) hp t1 t2 ow da k4 q
theorem wn_op {r : R2} {ta tb : TE} (h : We c Γ n ta fun d1 n1 => We c Γ n1 tb fun d2 n2 => R2N c n2 r d1 d2 fun d => k d n2) : Wn c Γ n (tOp r ta tb) k := by
  intro y ρ σ H S Q hQ
  refine h y ρ σ H S _ fun m1 x H1 d1 n1 S1 x1 h1 k1 => ?_
  refine k1 ⟨m1, y.ap⟩ ρ σ H1 S1 _ fun m2 z H2 d2 n2 S2 x2 h2 k2 => ?_
  refine k2 ⟨m2, y.ap⟩ H2 x z S2.lay (h1.sx x2) h2 Q fun p u ws d hp t1 t2 ow da k3 => ?_
  exact wn_mk (y := y) S2 (stp2 x1 x2 S2) hp t1 t2 ow da k3 hQ
/-- an operation that makes a new object gives data -/
theorem R2N.tree {d1 d2 : Dt} {r : R2} (h : R2N c n r d1 d2 kd) : R2V c n r d1 d2 kd := by
  intro y H a b L h1 h2 Q q
  refine h y H a b L h1 h2 Q fun p u ws d hp t1 t2 ow da k2 => ?_
  have sm := same_new (o := u) hp
  have dv : Dv (c.toWc.at_ y) (c.toWc.at_ y).av (upd H p u) (.ref p) d := OwH.dv (vs := ws) ⟨u, upd_same, t1, t2, ow⟩ (da.keep (same_kp sm))
  exact q _ _ _ sm (dv.free.widen fun q z => by
    by_cases e : q = p
    · exact absurd z (e ▸ L.new hp)
    · exact .inl ⟨z, fun w => e (by injection w with w; exact w.symm)⟩) k2
theorem nav_da {y : Ly} {H : Hp} {n : Cs} {p : Addr} {u : HO} {ws : List V} {d : Dt} (L : Lay (c.toWc.at_ y) n H) (hp : H p = none) (t1 : isT u = false) (t2 : isC u = false) (ow : OwO c.toWc u ws d) (da : DaAll (c.toWc.at_ y) (c.toWc.at_ y).av H ws d.kids) : Da (c.toWc.at_ y) (c.toWc.at_ y).av (upd H p u) (.ref p) d := by
  have sm := same_new (o := u) hp
  have dv : Dv (c.toWc.at_ y) (c.toWc.at_ y).av (upd H p u) (.ref p) d := OwH.dv (vs := ws) ⟨u, upd_same, t1, t2, ow⟩ (da.keep (same_kp sm))
  exact dv.free.widen fun q z => by
    by_cases e : q = p
    · exact absurd z (e ▸ L.new hp)
    · exact .inl ⟨z, fun w => e (by injection w with w; exact w.symm)⟩
theorem RPN.tree {ds : List Dt} {r : List V → Hp → VK → Prop} (h : RPN c n r ds kd) : RPV c n r ds kd := by
  intro y H vs L h1 Q q
  exact h y H vs L h1 Q fun p u ws d hp t1 t2 ow da k2 => q _ _ _ (same_new hp) (nav_da L hp t1 t2 ow da) k2
theorem RSN.tree {d : Dt} {lo hi : Option Int} (h : RSN c n r d lo hi kd) : RSV c n r d lo hi kd := by
  intro y H x L h1 Q q
  exact h y H x L h1 Q fun p u ws d hp t1 t2 ow da k2 => q _ _ _ (same_new hp) (nav_da L hp t1 t2 ow da) k2
theorem vs_lst {d : Dt} {ds : List Dt} {lo hi : Option Int} (e : dr n.s d = .lst ds) (h : kd (.lst (cutG ds lo hi))) : RSN c n (rSl c.K) d lo hi kd := by
  intro y H x L h1 Q q
  have v1 := L.dv h1
  rw [e] at v1
  obtain ⟨p, vs, rfl, h3, h4⟩ := v1.isL
  exact .inl ⟨_, _, rfl, SqL.of h3, fun p hp => q p _ _ (.lst (cutG ds lo hi)) hp rfl rfl rfl (h4.cut lo hi) h⟩
theorem vs_tup {d : Dt} {ds : List Dt} {lo hi : Option Int} (e : dr n.s d = .tup ds) (h : kd (.tup (cutG ds lo hi))) : RSV c n (rSl c.K) d lo hi kd := by
  intro y H x L h1 Q q
  have v1 := L.dv h1
  rw [e] at v1
  obtain ⟨p, vs, rfl, h3, h4⟩ := v1.isT
  refine .inr (.inl ⟨_, _, rfl, h3.sq, fun z => ?_, fun z p hp => q _ _ _ (same_new hp) (Da.newT L.live hp (h4.cut lo hi)) h⟩)
  rw [h4.length] at z
  rw [cutG_whole _ _ _ z] at h
  exact q _ H _ (Same.refl H) (.tup h3 h4) h
theorem vs_str {z : Str} {lo hi : Option Int} (hz : szOk z.length = true) (h : kd (.str (cutS z lo hi))) : RSV c n (rSl c.K) (.str z) lo hi kd := by
  intro y H x L h1 Q q
  cases h1
  exact .inr (.inr ⟨z, rfl, szl hz, q _ H _ (Same.refl H) (.str _) h⟩)
/-! list, tuple of values as they stand -/
theorem vp_listL {d : Dt} {ds : List Dt} (e : dr n.s d = .lst ds) (h : kd (.lst ds)) : RPN c n (rList c.K) [d] kd := by
  intro y H vs L h1 Q q
  cases h1 with
  | cons h1 h2 =>
    cases h2
    have v1 := L.dv h1
    rw [e] at v1
    obtain ⟨p, vs, rfl, h3, h4⟩ := v1.isL
    exact ⟨_, _, rfl, .inl (SqL.of h3), fun p hp => q p _ _ (.lst ds) hp rfl rfl rfl h4 h⟩
theorem vp_listT {d : Dt} {ds : List Dt} (e : dr n.s d = .tup ds) (h : kd (.lst ds)) : RPN c n (rList c.K) [d] kd := by
  intro y H vs L h1 Q q
  cases h1 with
  | cons h1 h2 =>
    cases h2
    have v1 := L.dv h1
    rw [e] at v1
    obtain ⟨p, vs, rfl, h3, h4⟩ := v1.isT
    exact ⟨_, _, rfl, .inr h3.sq, fun p hp => q p _ _ (.lst ds) hp rfl rfl rfl h4 h⟩
theorem vp_tupleL {d : Dt} {ds : List Dt} (e : dr n.s d = .lst ds) (h : kd (.tup ds)) : RPV c n (rTuple c.K) [d] kd := by
  intro y H vs L h1 Q q
  cases h1 with
  | cons h1 h2 =>
    cases h2
    have v1 := L.dv h1
    rw [e] at v1
    obtain ⟨p, vs, rfl, h3, h4⟩ := v1.isL
    exact ⟨_, _, rfl, .inl ⟨SqL.of h3, fun p hp => q _ _ _ (same_new hp) (Da.newT L.live hp h4) h⟩⟩
theorem vp_tupleT {d : Dt} {ds : List Dt} (e : dr n.s d = .tup ds) (h : kd (.tup ds)) : RPV c n (rTuple c.K) [d] kd := by
  intro y H vs L h1 Q q
  cases h1 with
  | cons h1 h2 =>
    cases h2
    have v1 := L.dv h1
    rw [e] at v1
    obtain ⟨p, vs, rfl, h3, h4⟩ := v1.isT
    exact ⟨_, _, rfl, .inr ⟨h3.sq, q _ H _ (Same.refl H) (.tup h3 h4) h⟩⟩
/-! isinstance -/
theorem w_isi (T : Tn) (hT : T ≠ .none) (h : We c Γ n te fun d n1 => ∃ t, (dr n1.s d).tn = some t ∧ k (.bl (t.sub T)) n1) : We c Γ n (tCB (rIsi c.K) (tCons te (tCons (tC (.ty T.s)) tNil))) k := by
  intro y ρ σ H S Q hQ
  refine h y ρ σ H S _ fun m x H1 d1 n1 S1 x1 h1 k1 => ?_
  obtain ⟨t, e, k1⟩ := k1
  refine ⟨x, .ty T.s, _, _, t.sub T, rfl, .ty _, (S1.lay.view h1).ty e, kit_ty ((kit_tn t T).resolve_right hT), ?_⟩
  exact hQ m _ H1 _ n1 S1 x1 (.bl _) k1
/-- isinstance(x, (tuple, list)) -/
theorem w_isiTL (h : We c Γ n te fun d n1 => ∃ t, (dr n1.s d).tn = some t ∧ k (.bl (t.sub .tuple || t.sub .list)) n1) : We c Γ n (tCB (rIsiT c.K) (tCons te (tCons (tTup (tCons (tC (.ty "tuple")) (tCons (tC (.ty "list")) tNil))) tNil))) k := by
  intro y ρ σ H S Q hQ
  refine h y ρ σ H S _ fun m x H1 d1 n1 S1 x1 h1 k1 => ?_
  obtain ⟨t, e, k1⟩ := k1
  refine ⟨szl rfl, fun p hp => ?_⟩
  have sm := same_new (o := HO.tup [.ty "tuple", .ty "list"]) hp
  refine ⟨x, p, [.ty "tuple", .ty "list"], _, [.type "tuple", .type "list"], t.sub .tuple || t.sub .list, rfl, upd_same, .cons (.ty _) (.cons (.ty _) .nil), ((S1.lay.view h1).keep (same_kp sm)).ty e, ?_, ?_⟩
  · have e1 : PySem.W.kitOne c.K (.type t.s) (.type "tuple") = some (t.sub .tuple) := kit_ty ((kit_tn t .tuple).resolve_right fun z => by cases z)
    have e2 : PySem.W.kitOne c.K (.type t.s) (.type "list") = some (t.sub .list) := kit_ty ((kit_tn t .list).resolve_right fun z => by cases z)
    refine kitAny_cons e1 (fun z => kitAny_cons e2 (fun z2 => ?_) (fun z2 => ?_)) (fun z => ?_)
    · rw [z, z2]; exact kitAny_nil
    · rw [z2, Bool.or_true]
    · rw [z, Bool.true_or]
  · exact hQ m _ _ _ n1 (S1.same sm) (stp2 x1 (Sx.same sm) (S1.same sm)) (.bl _) k1
end
end Pb
namespace Pb
open PySem PySem.Spec PyProof.Rows L2

section
/-! ### repr of data -/
def keyP : Key → PyData
  | .inl i => .int i
  | .inr x => .str x
mutual
def Dt.pyd : Dt → Option PyData
  | .non => some .none
  | .bl b => some (.bool b)
  | .int i => some (.int i)
  | .str x => some (.str x)
  | .lst xs => (Dt.pydAll xs).map PyData.list
  | .tup xs => (Dt.pydAll xs).map PyData.tuple
  | .dic ks ds => (Dt.pydAll ds).map fun es => .dict ((ks.map keyP).zip es)
  | _ => none
def Dt.pydAll : List Dt → Option (List PyData)
  | [] => some []
  | d :: ds => (Dt.pyd d).bind fun x => (Dt.pydAll ds).map fun xs => x :: xs
end
theorem pydAll_len : ∀ {ds : List Dt} {es : List PyData}, Dt.pydAll ds = some es → es.length = ds.length
  | [], _, h => by cases h; rfl
  | d :: ds, es, h => by
    have h' : ((Dt.pyd d).bind fun x => (Dt.pydAll ds).map fun xs => x :: xs) = some es := h
    obtain ⟨x, q1, q2⟩ := Option.bind_eq_some_iff.mp h'
    obtain ⟨xs, q3, q4⟩ := Option.map_eq_some_iff.mp q2
    subst q4
    rw [List.length_cons, List.length_cons, pydAll_len q3]
theorem reads_keys {P : Program} {w : World} {h : Heap} : ∀ {es : List DictEntry} {kvs : List (Key × Value)}, Pairs (mixKind P w) es kvs → ReadsAll h (es.map (·.key)) ((kvs.map (·.1)).map keyP) []
  | _, _, .nil => .nil
  | e :: es, kv :: kvs, .cons h1 _ h3 => by
    have r := reads_keys (h := h) h3
    obtain ⟨k, v⟩ := kv
    have h1' : keyIs k e.key = true := h1
    rcases keyIs_shape h1' with ⟨i, t, e1, e2⟩ | ⟨x, t, e1, e2⟩
    · subst e1
      show ReadsAll h (e.key :: es.map (·.key)) (PyData.int i :: (kvs.map (·.1)).map keyP) []
      rw [e2]
      exact ReadsAll.cons (as := []) (bs := []) (.int i t) r
    · subst e1
      show ReadsAll h (e.key :: es.map (·.key)) (PyData.str x :: (kvs.map (·.1)).map keyP) []
      rw [e2]
      exact ReadsAll.cons (as := []) (bs := []) (.str x t) r
theorem pairs_vals {P : Program} {w : World} : ∀ {es : List DictEntry} {kvs : List (Key × Value)}, Pairs (mixKind P w) es kvs → es.map (·.val) = kvs.map (·.2)
  | _, _, .nil => rfl
  | e :: es, kv :: kvs, .cons _ h2 h3 => by rw [List.map_cons, List.map_cons, h2, pairs_vals h3]
theorem kv_split : ∀ {kvs : List (Key × V)} {vs : List (Key × Value)}, KV kvs vs → vs.map (·.1) = kvs.map (·.1) ∧ Vals (kvs.map (·.2)) (vs.map (·.2))
  | _, _, .nil => ⟨rfl, .nil⟩
  | _, _, .cons h t => by
    obtain ⟨a, b⟩ := kv_split t
    refine ⟨?_, .cons h.2 b⟩
    rw [List.map_cons, List.map_cons, a, h.1]
section
variable {X : Cx} {pins : List (Addr × Obj)} {σ : L2.St} {H : Hp} {s : Shared} {c : Wc} {av : Addr → Prop}
mutual
theorem Da.reads (I : Inv X pins σ H s) (hK : c.K = X.K) : ∀ (d : Dt) (v : V) (u : Value) (e : PyData), Da c av H v d → d.pyd = some e → RelV v u → ∃ as, Reads s.heap u e as ∧ ∀ a ∈ as, H a ≠ none
  | .non, _, _, _, h, q, r => by
    cases h; cases q; cases r
    exact ⟨_, .none, fun a z => by simp at z⟩
  | .bl b, _, _, _, h, q, r => by
    cases h; cases q; cases r
    exact ⟨_, .bool b, fun a z => by simp at z⟩
  | .int i, _, _, _, h, q, r => by
    cases h; cases q
    obtain ⟨t, rfl⟩ := r
    exact ⟨_, .int i t, fun a z => by simp at z⟩
  | .str x, _, _, _, h, q, r => by
    cases h; cases q
    obtain ⟨t, rfl⟩ := r
    exact ⟨_, .str x t, fun a z => by simp at z⟩
  | .lst ds, _, _, e, h, q, r => by
    cases h with
    | lst h1 h2 h3 =>
      cases r
      have q' : (Dt.pydAll ds).map PyData.list = some e := q
      obtain ⟨es, q1, q2⟩ := Option.map_eq_some_iff.mp q'
      subst q2
      obtain ⟨its, rv, ⟨o, n, ho, hc, _, hd⟩, _⟩ := I.list (SqL.of h2)
      obtain ⟨as, hr, hz⟩ := DaAll.reads I hK ds _ its es h3 q1 rv
      refine ⟨_, .list ho hc hd hr, fun a z => ?_⟩
      rcases List.mem_cons.mp z with z | z
      · rw [z, h2]; intro w; cases w
      · exact hz a z
  | .tup ds, _, _, e, h, q, r => by
    cases h with
    | tup h2 h3 =>
      cases r
      have q' : (Dt.pydAll ds).map PyData.tuple = some e := q
      obtain ⟨es, q1, q2⟩ := Option.map_eq_some_iff.mp q'
      subst q2
      obtain ⟨its, rv, ⟨o, ho, hc, n, hd⟩, _⟩ := I.tuple (hK ▸ h2.sq)
      obtain ⟨as, hr, hz⟩ := DaAll.reads I hK ds _ its es h3 q1 rv
      exact ⟨_, .tuple ho hc hd hr, hz⟩
  | .dic ks ds, _, _, e, h, q, r => by
    cases h with
    | @dic p kvs _ _ h1 h2 h3 h4 =>
      cases r
      have q' : ((Dt.pydAll ds).map fun es => PyData.dict ((ks.map keyP).zip es)) = some e := q
      obtain ⟨es, q1, q2⟩ := Option.map_eq_some_iff.mp q'
      subst q2
      obtain ⟨_, _, vs, rk, o, en, ep, ho, hx, hd, _, hp, _⟩ := (show ObjOk X.prog X.w H s.heap p (.dK kvs) from I.hok p _ h2)
      obtain ⟨e1, rv⟩ := kv_split rk
      obtain ⟨as, hr, hz⟩ := DaAll.reads I hK ds _ _ es h4 q1 rv
      have ln : (ks.map keyP).length = es.length := by
        rw [pydAll_len q1, ← h4.length, ← h3, List.length_map, List.length_map, List.length_map]
      have k1 := reads_keys (h := s.heap) hp
      rw [e1, h3] at k1
      have v1 : ReadsAll s.heap (en.toList.map (·.val)) es as := by
        rw [pairs_vals hp]
        exact hr
      refine ⟨_, .dict (kvs := (ks.map keyP).zip es) ho hx.1 hd (by rw [List.map_fst_zip (by omega)]; exact k1) (by rw [List.map_snd_zip (by omega)]; exact v1), fun a z => ?_⟩
      rcases List.mem_append.mp z with z | z
      · rw [List.mem_singleton.mp z, h2]; intro w; cases w
      · exact hz a z
  | .obj _ _ _, _, _, _, _, q, _ => by cases q
  | .err _ _ _, _, _, _, _, q, _ => by cases q
  | .pen, _, _, _, _, q, _ => by cases q
  | .cls _, _, _, _, _, q, _ => by cases q
  | .rf _, _, _, _, _, q, _ => by cases q
theorem DaAll.reads (I : Inv X pins σ H s) (hK : c.K = X.K) : ∀ (ds : List Dt) (vs : List V) (us : List Value) (es : List PyData), DaAll c av H vs ds → Dt.pydAll ds = some es → Vals vs us → ∃ as, ReadsAll s.heap us es as ∧ ∀ a ∈ as, H a ≠ none
  | [], _, _, _, h, q, r => by
    cases h; cases q; cases r
    exact ⟨_, .nil, fun a z => by simp at z⟩
  | d :: ds, _, _, es, h, q, r => by
    cases h with
    | cons h1 h2 =>
      cases r with
      | cons r1 r2 =>
        have q' : ((Dt.pyd d).bind fun x => (Dt.pydAll ds).map fun xs => x :: xs) = some es := q
        obtain ⟨x, q1, q2⟩ := Option.bind_eq_some_iff.mp q'
        obtain ⟨xs, q3, q4⟩ := Option.map_eq_some_iff.mp q2
        subst q4
        obtain ⟨as, a1, a2⟩ := Da.reads I hK d _ _ x h1 q1 r1
        obtain ⟨bs, b1, b2⟩ := DaAll.reads I hK ds _ _ xs h2 q3 r2
        refine ⟨_, .cons a1 b1, fun a z => ?_⟩
        rcases List.mem_append.mp z with z | z
        · exact a2 a z
        · exact b2 a z
end
end
/-- what may be shown -/
def shows (e : PyData) : Bool := e.showable && decide (e.depth ≤ 100)
def rRepr (K : PySem.W.Frag) : List V → Hp → VK → Prop := fun xs H Q => ∃ (c : Wc) (av : Addr → Prop) (v : V) (d : Dt) (e : PyData), xs = [v] ∧ c.K = K ∧ Da c av H v d ∧ d.pyd = some e ∧ (e.hasDict = true → ∃ o, K.lookup sysModules = some o) ∧
  shows e = true ∧ e.shown.length ≤ sizeLine ∧ Q (.str e.shown) H
theorem b_repr {X : Cx} {k : Nat} (hr : RoomG true k X.A) : CallR X (.builtin "repr") (rRepr X.K) := by
  intro pins s σ H xs us Q I r h
  obtain ⟨c, av, v, d, e, rfl, hK, da, hp, hs, hw, hz, q⟩ := h
  obtain ⟨h1, h2⟩ := Bool.and_eq_true_iff.mp hw
  have h2 := of_decide_eq_true h2
  have hu := hr.rm.un
  cases r with
  | cons rv rn =>
    cases rn
    obtain ⟨as, rd, tr⟩ := Da.reads I hK d v _ e da hp rv
    have big : ∀ tk, EP X pins σ Q (.str e.shown tk) { s with toks := s.toks + 1 } := fun tk => ⟨.str e.shown, H, I.tok _, ⟨_, rfl⟩, q⟩
    cases da with
    | non =>
      cases rv; cases hp
      refine PySem.P.repr_of_none ?_
      have e1 : (PyData.none).shown = ("None" : Str) := PyData.shown_none
      rw [← e1]; exact big _
    | bl b =>
      cases rv; cases hp
      refine PySem.P.repr_of_bool ?_
      have e1 : (PyData.bool b).shown = (if b then "True" else "False" : Str) := PyData.shown_bool b
      rw [← e1]; exact big _
    | int i =>
      obtain ⟨t, rfl⟩ := rv
      cases hp
      have h3 : i.natAbs.log2 < 1920 := by
        have z : decide (i.natAbs.log2 < 1920) = true := by simpa [PyData.showable] using h1
        exact of_decide_eq_true z
      refine PySem.P.repr_of_int h3 ?_
      have e1 : (PyData.int i).shown = ((toString i : String) : Str) := PyData.shown_int i
      rw [← e1]; exact big _
    | str x =>
      obtain ⟨t, rfl⟩ := rv
      cases hp
      have e1 : (PyData.str x).shown = reprText x := PyData.shown_str x
      rw [e1] at hz
      refine PySem.P.repr_of_str ?_ hz
      rw [← e1]; exact big _
    | lst a1 a2 a3 =>
      cases rv
      refine repr_of_reads' rd h1 (fun hd hm => ?_) (hr.gd rfl) (by omega) (fun _ _ e => e) (fun h' u tk hk => ⟨.str e.shown, H, I.kept hk, ⟨_, rfl⟩, q⟩) hz
      obtain ⟨o, ho⟩ := hs hd
      exact tr _ hm (I.bs _ o (I.ok.mod.kin _ _ ho)).2
    | tup a2 a3 =>
      cases rv
      refine repr_of_reads' rd h1 (fun hd hm => ?_) (hr.gd rfl) (by omega) (fun _ _ e => e) (fun h' u tk hk => ⟨.str e.shown, H, I.kept hk, ⟨_, rfl⟩, q⟩) hz
      obtain ⟨o, ho⟩ := hs hd
      exact tr _ hm (I.bs _ o (I.ok.mod.kin _ _ ho)).2
    | dic a1 a2 a3 a4 =>
      cases rv
      refine repr_of_reads' rd h1 (fun hd hm => ?_) (hr.gd rfl) (by omega) (fun _ _ e => e) (fun h' u tk hk => ⟨.str e.shown, H, I.kept hk, ⟨_, rfl⟩, q⟩) hz
      obtain ⟨o, ho⟩ := hs hd
      exact tr _ hm (I.bs _ o (I.ok.mod.kin _ _ ho)).2
    | obj => cases hp
    | err => cases hp
    | pen => cases hp
    | cls _ => cases hp
    | rf _ => cases hp
section
variable {c : Fc} {k : Dt → Nat → Prop} {n : Nat}
theorem c_repr {d : Dt} {e : PyData} (hp : d.pyd = some e) (hs : e.hasDict = true → ∃ o, c.K.lookup sysModules = some o) (hw : shows e = true) (hz : szOk e.shown.length = true) (h : k (.str e.shown) n) : RCD c (rRepr c.K) [d] n k := rc_pure fun av H vs lv pa da Q q => by
  cases da with
  | cons h1 h2 =>
    cases h2
    exact ⟨c.toWc, av, _, d, e, rfl, rfl, h1, hp, hs, hw, szl hz, q _ H _ (Same.refl H) (.str _) h⟩
end

/-! ### methods of texts -/
section
variable {X : Cx} {c : Fc} {k : Dt → Nat → Prop} {Γ : List Sl} {n : Nat} {to te : TE}
end
end
section
/-! ### truth -/
def tTr (K : PySem.W.Frag) (ta : TE) : TT := fun σ H Q => ta σ H fun x H' => ∃ k, TruV K x H' k ∧ Q k H'
theorem pt_tr {X : Cx} {a : Expr} {ta : TE} (ha : PE X a ta) (he : ∀ whole, isTrue a X.env whole = (do let v ← whole; standAt a.pos; holding [v] (truthy v)) := by intro _; rfl) : PT X a (tTr X.K ta) := pt_truth ha he
def truD : Dt → Option Bool
  | .non => some false
  | .bl b => some b
  | .int i => some (i != 0)
  | .lst ds => some (!ds.isEmpty)
  | .tup ds => some (!ds.isEmpty)
  | .dic ks _ => some (!ks.isEmpty)
  | .str z => if z.length ≤ 16777216 then some ((z.length : Int) != 0) else none
  | _ => none
theorem truD_ok {c : Wc} {av : Addr → Prop} {H : Hp} {v : V} {d : Dt} {b : Bool} (h : Da c av H v d) (e : truD d = some b) : TruV c.K v H b := by
  cases h with
  | non => cases e; rfl
  | bl b => cases e; rfl
  | int i => cases e; rfl
  | str z =>
    have e' : (if z.length ≤ 16777216 then some ((z.length : Int) != 0) else none) = some b := e
    by_cases hz : z.length ≤ 16777216
    · rw [if_pos hz] at e'
      exact ⟨by rw [sizeLine_eq]; exact hz, (Option.some.inj e').symm⟩
    · rw [if_neg hz] at e'; cases e'
  | lst h1 h2 h3 => cases e; exact .inl ⟨_, SqL.of h2, by rw [h3.isEmpty]⟩
  | tup h2 h3 => cases e; exact .inr (.inl ⟨_, h2.sq, by rw [h3.isEmpty]⟩)
  | @dic p kvs ks ds h1 h2 h3 h4 =>
    have e' : some (!ks.isEmpty) = some b := e
    cases e'
    refine .inr (.inr ⟨_, h2, ?_⟩)
    rw [← h3]
    cases kvs <;> rfl
  | obj => cases e
  | err _ _ _ _ => cases e
  | pen => cases e
  | cls _ => cases e
  | rf _ => cases e
section
variable {c : Fc} {Γ : List Sl} {n : Nat} {k : Dt → Nat → Prop} {kt : Bool → Nat → Prop} {ta tb te : TE}
theorem r_neg {i : Int} {k : Dt → Prop} (h : k (.int (-i))) : R1D c (rU fun i => .int (-i)) (.int i) k := by
  intro av H x lv pa a Q q
  cases a
  exact ⟨i, rfl, q _ H _ (Same.refl H) (.int _) h⟩
end
end
section
/-! ### texts -/
def rJoin (K : PySem.W.Frag) : V → List V → Hp → VK → Prop := fun x xs H Q => ∃ a p, ∃ ys : List Str, x = .str a ∧ xs = [.ref p] ∧ (SqL K H p (ys.map V.str) ∨ SqT K H p (ys.map V.str)) ∧ (ys.map (·.length)).sum + ys.length * a.length ≤ 16777216 ∧ Q (.str (Txt.join a ys)) H
def rSplit : V → List V → Hp → VK → Prop := fun x xs H Q => ∃ a b, x = .str a ∧ xs = [.str b] ∧ (b.length == 0) = false ∧ a.length + 2 ≤ sizeLine ∧ rNewStrs (Txt.split a b) H Q
section
variable {X : Cx} {c : Fc} {k : Dt → Nat → Prop} {Γ : List Sl} {n : Nat} {to te : TE}
end
/-! ### a dict written out -/
theorem merge_app : ∀ (kvs acc : List (Key × V)), ((acc ++ kvs).map (·.1)).Nodup → mergeK acc kvs = acc ++ kvs
  | [], acc, _ => by rw [List.append_nil]; rfl
  | kv :: kvs, acc, h => by
    have e : putK acc kv.1 kv.2 = acc ++ [kv] := by
      unfold putK
      rw [if_neg]
      intro z
      rw [List.any_eq_true] at z
      obtain ⟨p, hp, z⟩ := z
      have z := of_decide_eq_true z
      rw [List.map_append, List.nodup_append] at h
      exact h.2.2 p.1 (List.mem_map_of_mem hp) kv.1 (by simp) z
    show mergeK (putK acc kv.1 kv.2) kvs = _
    rw [e, merge_app kvs (acc ++ [kv]) (by rw [List.append_assoc]; exact h), List.append_assoc]
    rfl
def keyD : Dt → Option Key
  | .int i => some (.inl i)
  | .str x => some (.inr x)
  | _ => none
section
variable {c : Fc} {Γ : List Sl} {n : Nat} {k : Dt → Nat → Prop} {kp : List Key → List Dt → Nat → Prop} {tk tv : TE} {trs : List (TE × TE)}
end
/-! ### branches, ends -/
theorem ite_t {b : Bool} {A B : Prop} (h : b = true) (a : A) : if b = true then A else B := by rw [if_pos h]; exact a
theorem ite_f {b : Bool} {A B : Prop} (h : b = false) (a : B) : if b = true then A else B := by rw [if_neg (by rw [h]; decide)]; exact a
theorem ite_b {b : Bool} {A B : Prop} (h : b = true → A) (h2 : b = false → B) : if b = true then A else B := by
  cases b
  · exact ite_f rfl (h2 rfl)
  · exact ite_t rfl (h rfl)
/-! ### comprehensions and loops, by what a turn gives and what it draws -/
section
variable {c : Fc} {Γ : List Sl} {n : Nat} {k : Dt → Nat → Prop} {wi : TI} {g : TG} {tt : TT} {te : TE} {vs js : List Nat} {tb : TS} {N : Nd}
end
end
section
/-! ### promises by the number of values -/
section
variable {c : Fc} {n cost : Nat} {k : Dt → Nat → Prop} {E : XK} {N : List Str} {t : TS}
end
/-! ### places, lengths -/
theorem atI_nat {α : Type} {xs : List α} {i : Int} (h0 : 0 ≤ i) (h1 : i < xs.length) : ∃ d, atI xs i = some d ∧ d ∈ xs := by
  have hi : i.toNat < xs.length := by omega
  refine ⟨xs[i.toNat], ?_, List.getElem_mem hi⟩
  unfold atI ixN
  rw [if_pos h0, if_pos (by omega)]
  show xs[i.toNat]? = _
  exact List.getElem?_eq_getElem hi
theorem r_ixL_any {c : Fc} {n : Nat} {k : Dt → Prop} {ds : List Dt} {i : Int} (h0 : 0 ≤ i) (h1 : i < ds.length) (h : ∀ d ∈ ds, k d) : R2D c n (rIx c.K) (.lst ds) (.int i) k := by
  obtain ⟨d, e, m⟩ := atI_nat h0 h1
  exact r_ixL e (h d m)
theorem r_ixT_any {c : Fc} {n : Nat} {k : Dt → Prop} {ds : List Dt} {i : Int} (h0 : 0 ≤ i) (h1 : i < ds.length) (h : ∀ d ∈ ds, k d) : R2D c n (rIx c.K) (.tup ds) (.int i) k := by
  obtain ⟨d, e, m⟩ := atI_nat h0 h1
  exact r_ixT e (h d m)
theorem r_ixS_any {c : Fc} {n : Nat} {k : Dt → Prop} {z : Str} {i : Int} (hz : szOk z.length = true) (h0 : 0 ≤ i) (h1 : i < z.length) (h : ∀ s ∈ z.cps.toList, k (.str ⟨#[s]⟩)) : R2D c n (rIx c.K) (.str z) (.int i) k := by
  obtain ⟨d, e, m⟩ := atI_nat (xs := z.cps.toList) h0 (by rw [Array.length_toList]; exact h1)
  exact r_ixS hz e (h d m)
theorem sz_of {n m : Nat} (h : n ≤ m) (hm : szOk m = true) : szOk n = true := by
  have := Nat.le_of_ble_eq_true hm
  exact Nat.ble_eq_true_of_le (by omega)
theorem cutS_len (z : Str) (lo hi : Option Int) : (cutS z lo hi).length ≤ z.length := by
  show ((z.cps.toList.drop (HT.sIx z.length 0 lo)).take (HT.sIx z.length z.length hi - HT.sIx z.length 0 lo)).toArray.size ≤ z.cps.size
  rw [List.size_toArray, List.length_take, List.length_drop, Array.length_toList]
  omega
theorem join_len {z : Str} {ys : List Str} {b : Nat} (h : ∀ y ∈ ys, y.length ≤ b) : (ys.map (·.length)).sum ≤ ys.length * b := by
  induction ys with
  | nil => simp
  | cons y ys ih =>
    rw [List.map_cons, List.sum_cons, List.length_cons, Nat.add_mul, Nat.one_mul]
    have := h y (by simp)
    have := ih fun y hy => h y (by simp [hy])
    omega
theorem joined_len (z : Str) (ys : List Str) : (Txt.join z ys).length ≤ (ys.map (·.length)).sum + ys.length * z.length := by
  show (Builtin.Str.glued z ys).length ≤ _
  rw [StrLaws.glued_eq_join]
  exact StrLaws.join_length_le z ys
/-- a list of texts -/
theorem strs_of {ds : List Dt} {p : Str → Prop} (h : ∀ d ∈ ds, ∃ z, d = .str z ∧ p z) : ∃ ys : List Str, ds = ys.map Dt.str ∧ ∀ y ∈ ys, p y := by
  induction ds with
  | nil => exact ⟨[], rfl, by simp⟩
  | cons d ds ih =>
    obtain ⟨z, rfl, hz⟩ := h d (by simp)
    obtain ⟨ys, rfl, hy⟩ := ih fun e he => h e (by simp [he])
    refine ⟨z :: ys, rfl, fun y q => ?_⟩
    cases q with
    | head => exact hz
    | tail _ q => exact hy y q
/-! ### plain data: equality -/
mutual
/-- no dict, no object, no pen; nested k deep at most -/
def Dt.pl : Nat → Dt → Bool
  | _, .non => true
  | _, .bl _ => true
  | _, .int _ => true
  | _, .str x => PyData.strOk x
  | k + 1, .lst xs => Dt.pls k xs
  | k + 1, .tup xs => Dt.pls k xs
  | _, _ => false
def Dt.pls : Nat → List Dt → Bool
  | _, [] => true
  | k, x :: xs => Dt.pl k x && Dt.pls k xs
end
mutual
def Dt.eqv : Dt → Dt → Bool
  | .non, .non => true
  | .bl a, .bl b => a == b
  | .bl a, .int j => (if a then 1 else 0) == j
  | .int i, .bl b => i == (if b then 1 else 0)
  | .int i, .int j => i == j
  | .str x, .str y => x == y
  | .lst xs, .lst ys => Dt.eqvs xs ys
  | .tup xs, .tup ys => Dt.eqvs xs ys
  | _, _ => false
def Dt.eqvs : List Dt → List Dt → Bool
  | [], [] => true
  | x :: xs, y :: ys => Dt.eqv x y && Dt.eqvs xs ys
  | _, _ => false
end
mutual
theorem pl_py : ∀ (k : Nat) (d : Dt), d.pl k = true → ∃ e, d.py = some e ∧ e.canLay0 = true ∧ e.depth ≤ k
  | _, .non, _ => ⟨.none, rfl, rfl, Nat.zero_le _⟩
  | _, .bl b, _ => ⟨.bool b, rfl, rfl, Nat.zero_le _⟩
  | _, .int i, _ => ⟨.int i, rfl, rfl, Nat.zero_le _⟩
  | _, .str x, h => ⟨.str x, rfl, by simpa [Dt.pl, PyData.canLay0] using h, Nat.zero_le _⟩
  | 0, .lst xs, h => by simp [Dt.pl] at h
  | 0, .tup xs, h => by simp [Dt.pl] at h
  | k + 1, .lst xs, h => by
    obtain ⟨es, h1, h2, h3⟩ := pls_py k xs (by simpa [Dt.pl] using h)
    refine ⟨.list es, ?_, by simpa [PyData.canLay0] using h2, by simpa [PyData.depth] using h3⟩
    show (Dt.pyAll xs).map PyData.list = _
    rw [h1]; rfl
  | k + 1, .tup xs, h => by
    obtain ⟨es, h1, h2, h3⟩ := pls_py k xs (by simpa [Dt.pl] using h)
    refine ⟨.tuple es, ?_, by simpa [PyData.canLay0] using h2, by simpa [PyData.depth] using h3⟩
    show (Dt.pyAll xs).map PyData.tuple = _
    rw [h1]; rfl
  | _, .dic _ _, h => by simp [Dt.pl] at h
  | _, .obj _ _ _, h => by simp [Dt.pl] at h
  | _, .err _ _ _, h => by simp [Dt.pl] at h
  | _, .pen, h => by simp [Dt.pl] at h
  | _, .cls _, h => by simp [Dt.pl] at h
theorem pls_py : ∀ (k : Nat) (ds : List Dt), Dt.pls k ds = true → ∃ es, Dt.pyAll ds = some es ∧ PyData.canLayAll0 es = true ∧ PyData.depthAll es ≤ k
  | _, [], _ => ⟨[], rfl, rfl, Nat.zero_le _⟩
  | k, d :: ds, h => by
    have h' : d.pl k = true ∧ Dt.pls k ds = true := by simpa [Dt.pls] using h
    obtain ⟨e, h1, h2, h3⟩ := pl_py k d h'.1
    obtain ⟨es, h4, h5, h6⟩ := pls_py k ds h'.2
    refine ⟨e :: es, ?_, by simp [PyData.canLayAll0, h2, h5], by simp [PyData.depthAll]; omega⟩
    show ((Dt.py d).bind fun x => (Dt.pyAll ds).map fun xs => x :: xs) = _
    rw [h1, h4]; rfl
end
theorem py_lst {xs : List Dt} {a : PyData} (h : Dt.py (.lst xs) = some a) : ∃ as, Dt.pyAll xs = some as ∧ a = .list as := by
  have h' : (Dt.pyAll xs).map PyData.list = some a := h
  obtain ⟨as, q, rfl⟩ := Option.map_eq_some_iff.mp h'
  exact ⟨as, q, rfl⟩
theorem py_tup {xs : List Dt} {a : PyData} (h : Dt.py (.tup xs) = some a) : ∃ as, Dt.pyAll xs = some as ∧ a = .tuple as := by
  have h' : (Dt.pyAll xs).map PyData.tuple = some a := h
  obtain ⟨as, q, rfl⟩ := Option.map_eq_some_iff.mp h'
  exact ⟨as, q, rfl⟩
theorem pys_cons {d : Dt} {ds : List Dt} {as : List PyData} (h : Dt.pyAll (d :: ds) = some as) : ∃ b bs, Dt.py d = some b ∧ Dt.pyAll ds = some bs ∧ as = b :: bs := by
  have q' : ((Dt.py d).bind fun x => (Dt.pyAll ds).map fun xs => x :: xs) = some as := h
  obtain ⟨x, q1, q2⟩ := Option.bind_eq_some_iff.mp q'
  obtain ⟨xs, q3, q4⟩ := Option.map_eq_some_iff.mp q2
  exact ⟨x, xs, q1, q3, q4.symm⟩
mutual
theorem eqv_py : ∀ (d e : Dt) (a b : PyData), d.py = some a → e.py = some b → PyData.eqv a b = Dt.eqv d e
  | .lst xs, e, a, b, h1, h2 => by
    obtain ⟨as, q, rfl⟩ := py_lst h1
    cases e with
    | lst ys =>
      obtain ⟨bs, q2, rfl⟩ := py_lst h2
      simp only [PyData.eqv, Dt.eqv]
      exact eqvs_py xs ys as bs q q2
    | tup ys => obtain ⟨bs, q2, rfl⟩ := py_tup h2; rfl
    | dic _ _ => cases h2
    | obj _ _ _ => cases h2
    | err _ _ _ => cases h2
    | pen => cases h2
    | cls _ => cases h2
    | rf _ => cases h2
    | _ => cases h2; rfl
  | .tup xs, e, a, b, h1, h2 => by
    obtain ⟨as, q, rfl⟩ := py_tup h1
    cases e with
    | tup ys =>
      obtain ⟨bs, q2, rfl⟩ := py_tup h2
      simp only [PyData.eqv, Dt.eqv]
      exact eqvs_py xs ys as bs q q2
    | lst ys => obtain ⟨bs, q2, rfl⟩ := py_lst h2; rfl
    | dic _ _ => cases h2
    | obj _ _ _ => cases h2
    | err _ _ _ => cases h2
    | pen => cases h2
    | cls _ => cases h2
    | rf _ => cases h2
    | _ => cases h2; rfl
  | .dic _ _, _, _, _, h1, _ => by cases h1
  | .obj _ _ _, _, _, _, h1, _ => by cases h1
  | .err _ _ _, _, _, _, h1, _ => by cases h1
  | .pen, _, _, _, h1, _ => by cases h1
  | .cls _, _, _, _, h1, _ => by cases h1
  | .non, e, a, b, h1, h2 => by
    cases h1
    cases e with
    | lst ys => obtain ⟨bs, q2, rfl⟩ := py_lst h2; rfl
    | tup ys => obtain ⟨bs, q2, rfl⟩ := py_tup h2; rfl
    | dic _ _ => cases h2
    | obj _ _ _ => cases h2
    | err _ _ _ => cases h2
    | pen => cases h2
    | cls _ => cases h2
    | rf _ => cases h2
    | _ => cases h2; rfl
  | .bl _, e, a, b, h1, h2 => by
    cases h1
    cases e with
    | lst ys => obtain ⟨bs, q2, rfl⟩ := py_lst h2; rfl
    | tup ys => obtain ⟨bs, q2, rfl⟩ := py_tup h2; rfl
    | dic _ _ => cases h2
    | obj _ _ _ => cases h2
    | err _ _ _ => cases h2
    | pen => cases h2
    | cls _ => cases h2
    | rf _ => cases h2
    | _ => cases h2; rfl
  | .int _, e, a, b, h1, h2 => by
    cases h1
    cases e with
    | lst ys => obtain ⟨bs, q2, rfl⟩ := py_lst h2; rfl
    | tup ys => obtain ⟨bs, q2, rfl⟩ := py_tup h2; rfl
    | dic _ _ => cases h2
    | obj _ _ _ => cases h2
    | err _ _ _ => cases h2
    | pen => cases h2
    | cls _ => cases h2
    | rf _ => cases h2
    | _ => cases h2; rfl
  | .str _, e, a, b, h1, h2 => by
    cases h1
    cases e with
    | lst ys => obtain ⟨bs, q2, rfl⟩ := py_lst h2; rfl
    | tup ys => obtain ⟨bs, q2, rfl⟩ := py_tup h2; rfl
    | dic _ _ => cases h2
    | obj _ _ _ => cases h2
    | err _ _ _ => cases h2
    | pen => cases h2
    | cls _ => cases h2
    | rf _ => cases h2
    | _ => cases h2; rfl
theorem eqvs_py : ∀ (ds es : List Dt) (as bs : List PyData), Dt.pyAll ds = some as → Dt.pyAll es = some bs → PyData.eqvAll as bs = Dt.eqvs ds es
  | [], es, as, bs, h1, h2 => by
    cases h1
    cases es with
    | nil => cases h2; rfl
    | cons e es => obtain ⟨b, bs', _, _, rfl⟩ := pys_cons h2; rfl
  | d :: ds, es, as, bs, h1, h2 => by
    obtain ⟨a, as', q1, q2, rfl⟩ := pys_cons h1
    cases es with
    | nil => cases h2; rfl
    | cons e es =>
      obtain ⟨b, bs', q3, q4, rfl⟩ := pys_cons h2
      simp only [PyData.eqvAll, Dt.eqvs]
      rw [eqv_py d e a b q1 q3, eqvs_py ds es as' bs' q2 q4]
end
theorem r_eqP {c : Fc} {n : Nat} {k : Dt → Prop} {d e : Dt} (hd : d.pl 20 = true) (he : e.pl 20 = true) (h : k (.bl (d.eqv e))) : R2D c n (rEqX c.K) d e k := by
  obtain ⟨a, h1, h2, h3⟩ := pl_py 20 d hd
  obtain ⟨b, h4, h5, h6⟩ := pl_py 20 e he
  refine r_eqD h1 h4 ?_ ?_ (by rw [eqv_py d e a b h1 h4]; exact h)
  · show (a.canLay0 && decide (a.depth ≤ 64)) = true
    rw [h2, decide_eq_true (by omega)]; rfl
  · show (b.canLay0 && decide (b.depth ≤ 64)) = true
    rw [h5, decide_eq_true (by omega)]; rfl
theorem r_neP {c : Fc} {n : Nat} {k : Dt → Prop} {d e : Dt} (hd : d.pl 20 = true) (he : e.pl 20 = true) (h : k (.bl (!d.eqv e))) : R2D c n (rNeX c.K) d e k := by
  obtain ⟨a, h1, h2, h3⟩ := pl_py 20 d hd
  obtain ⟨b, h4, h5, h6⟩ := pl_py 20 e he
  refine r_neD h1 h4 ?_ ?_ (by rw [eqv_py d e a b h1 h4]; exact h)
  · show (a.canLay0 && decide (a.depth ≤ 64)) = true
    rw [h2, decide_eq_true (by omega)]; rfl
  · show (b.canLay0 && decide (b.depth ≤ 64)) = true
    rw [h5, decide_eq_true (by omega)]; rfl
mutual
theorem eqv_self : ∀ (k : Nat) (d : Dt), d.pl k = true → d.eqv d = true
  | _, .non, _ => rfl
  | _, .bl b, _ => by simp [Dt.eqv]
  | _, .int i, _ => by simp [Dt.eqv]
  | _, .str x, _ => by simp [Dt.eqv]
  | 0, .lst xs, h => by simp [Dt.pl] at h
  | 0, .tup xs, h => by simp [Dt.pl] at h
  | k + 1, .lst xs, h => by simp only [Dt.eqv]; exact eqvs_self k xs (by simpa [Dt.pl] using h)
  | k + 1, .tup xs, h => by simp only [Dt.eqv]; exact eqvs_self k xs (by simpa [Dt.pl] using h)
  | _, .dic _ _, h => by simp [Dt.pl] at h
  | _, .obj _ _ _, h => by simp [Dt.pl] at h
  | _, .err _ _ _, h => by simp [Dt.pl] at h
  | _, .pen, h => by simp [Dt.pl] at h
  | _, .cls _, h => by simp [Dt.pl] at h
theorem eqvs_self : ∀ (k : Nat) (ds : List Dt), Dt.pls k ds = true → Dt.eqvs ds ds = true
  | _, [], _ => rfl
  | k, d :: ds, h => by
    have h' : d.pl k = true ∧ Dt.pls k ds = true := by simpa [Dt.pls] using h
    simp only [Dt.eqvs]
    rw [eqv_self k d h'.1, eqvs_self k ds h'.2]; rfl
end
theorem pls_all {k : Nat} : ∀ {ds : List Dt}, (∀ d ∈ ds, d.pl k = true) → Dt.pls k ds = true
  | [], _ => rfl
  | d :: ds, h => by
    simp only [Dt.pls]
    rw [h d (by simp), pls_all fun e he => h e (by simp [he])]
    rfl
theorem pl_lst {k : Nat} {ds : List Dt} (h : ∀ d ∈ ds, d.pl k = true) : (Dt.lst ds).pl (k + 1) = true := by simp only [Dt.pl]; exact pls_all h
theorem pl_tup {k : Nat} {ds : List Dt} (h : ∀ d ∈ ds, d.pl k = true) : (Dt.tup ds).pl (k + 1) = true := by simp only [Dt.pl]; exact pls_all h
theorem pl_ints {k : Nat} (ns : List Int) : (Dt.lst (ns.map Dt.int)).pl (k + 1) = true := pl_lst fun d hd => by
  obtain ⟨i, _, rfl⟩ := List.mem_map.mp hd
  simp [Dt.pl]
theorem pl_strs {k : Nat} {ns : List Str} (h : ∀ x ∈ ns, PyData.strOk x = true) : (Dt.lst (ns.map Dt.str)).pl (k + 1) = true := pl_lst fun d hd => by
  obtain ⟨i, hi, rfl⟩ := List.mem_map.mp hd
  simpa [Dt.pl] using h i hi
theorem eqv_nil (ds : List Dt) : (Dt.lst ds).eqv (.lst []) = ds.isEmpty := by
  cases ds <;> rfl
/-! ### the pen's list, and a draw's bounds -/
theorem r_neNil {c : Fc} {n : Nat} {k : Dt → Prop} {ns : List Int} (h1 : ns = [] → k (.bl false)) (h2 : 0 < ns.length → k (.bl true)) : R2D c n (rNeX c.K) (.lst (ns.map Dt.int)) (.lst []) k := by
  refine r_neP (pl_ints ns) rfl ?_
  rw [eqv_nil]
  cases ns with
  | nil => exact h1 rfl
  | cons i ns => exact h2 (by simp)
theorem mul_bd {x y a b : Int} (h1 : 0 ≤ x) (h2 : x ≤ a) (h3 : 0 ≤ y) (h4 : y ≤ b) : 0 ≤ x * y ∧ x * y ≤ a * b :=
  ⟨Int.mul_nonneg h1 h3, Int.mul_le_mul h2 h4 h3 (Int.le_trans h1 h2)⟩
theorem md_bd (x : Int) {b : Int} (h : 0 < b) : 0 ≤ x % b ∧ x % b < b := ⟨Int.emod_nonneg x (by omega), Int.emod_lt_of_pos x h⟩
/-- a place of a list of whole numbers, by a rest -/
theorem r_ixI {c : Fc} {n : Nat} {k : Dt → Prop} {ns : List Int} {i : Int} (h0 : 0 ≤ i) (h1 : i < ns.length) (h : ∀ j : Int, k (.int j)) : R2D c n (rIx c.K) (.lst (ns.map Dt.int)) (.int i) k :=
  r_ixL_any h0 (by rw [List.length_map]; exact h1) fun d hd => by
    obtain ⟨j, _, rfl⟩ := List.mem_map.mp hd
    exact h j
/-! ### good texts: at most b signs, each a code point -/
def okS (b : Nat) (z : Str) : Prop := z.length ≤ b ∧ ∀ s ∈ z.cps.toList, s < 1114112
def okSb (b : Nat) (z : Str) : Bool := decide (z.length ≤ b) && z.cps.toList.all fun s => decide (s < 1114112)
theorem okS_of {b : Nat} {z : Str} (h : okSb b z = true) : okS b z := by
  obtain ⟨h1, h2⟩ := Bool.and_eq_true_iff.mp h
  exact ⟨of_decide_eq_true h1, fun s hs => of_decide_eq_true (List.all_eq_true.mp h2 s hs)⟩
theorem okS.mono {a b : Nat} {z : Str} (h : okS a z) (hb : a ≤ b) : okS b z := ⟨Nat.le_trans h.1 hb, h.2⟩
theorem okS.strOk {b : Nat} {z : Str} (h : okS b z) : PyData.strOk z = true := by
  unfold PyData.strOk
  rw [Array.all_eq_true']
  intro x hx
  exact decide_eq_true (h.2 x (by simpa using hx))
theorem app_list (x y : Str) : (x ++ y).cps.toList = x.cps.toList ++ y.cps.toList := by
  rw [Str.cps_append, Array.toList_append]
theorem okS.app {a b : Nat} {x y : Str} (h : okS a x) (h2 : okS b y) : okS (a + b) (x ++ y) := by
  refine ⟨by rw [Str.length_append]; have := h.1; have := h2.1; omega, fun s hs => ?_⟩
  rw [app_list] at hs
  exact (List.mem_append.mp hs).elim (h.2 s) (h2.2 s)
theorem okS.cut {a : Nat} {x : Str} (h : okS a x) (lo hi : Option Int) : okS a (cutS x lo hi) := by
  refine ⟨Nat.le_trans (cutS_len x lo hi) h.1, fun s hs => h.2 s ?_⟩
  have e : (cutS x lo hi).cps.toList = (x.cps.toList.drop (HT.sIx x.length 0 lo)).take (HT.sIx x.length x.length hi - HT.sIx x.length 0 lo) := rfl
  rw [e] at hs
  exact List.mem_of_mem_drop (List.mem_of_mem_take hs)
theorem okS.one {s : Nat} (h : s < 1114112) : okS 1 ⟨#[s]⟩ := ⟨Nat.le_refl _, fun t ht => by
  have : t = s := by simpa using ht
  omega⟩
theorem join_okS {z : Str} {a b : Nat} (hz : okS a z) : ∀ {ys : List Str}, (∀ y ∈ ys, okS b y) → okS (ys.length * (a + b)) (Str.join z ys)
  | [], _ => ⟨Nat.zero_le _, fun s hs => by simp [Str.join, Str.empty] at hs⟩
  | [x], h => (h x (by simp)).mono (by simp)
  | x :: y :: r, h => by
    have q := ((h x (by simp)).app hz).app (join_okS hz (ys := y :: r) fun w hw => h w (by simp [hw]))
    refine q.mono ?_
    simp only [List.length_cons, Nat.add_mul]
    omega
theorem joined_okS {z : Str} {ys : List Str} {a b : Nat} (hz : okS a z) (h : ∀ y ∈ ys, okS b y) : okS (ys.length * (a + b)) (Txt.join z ys) := by
  show okS _ (Builtin.Str.glued z ys)
  rw [StrLaws.glued_eq_join]
  exact join_okS hz h
theorem join_mem_list {z : Str} : ∀ {ys : List Str} {y : Str} {s : Nat}, y ∈ ys → s ∈ y.cps.toList → s ∈ (Str.join z ys).cps.toList
  | [x], y, s, h, hs => by
    have e : y = x := by simpa using h
    rw [e] at hs
    exact hs
  | x :: w :: r, y, s, h, hs => by
    show s ∈ (x ++ z ++ Str.join z (w :: r)).cps.toList
    rw [app_list, app_list]
    rcases List.mem_cons.mp h with e | h
    · subst e
      simp [hs]
    · have := join_mem_list (z := z) h hs
      simp [this]
theorem split_okS {x y : Str} {b : Nat} (h : okS b x) : ∀ z ∈ Txt.split x y, okS b z := by
  intro z hz
  have e := StrLaws.join_split x y
  refine ⟨?_, fun s hs => ?_⟩
  · have q := join_mem_le y _ z hz
    rw [e] at q
    exact Nat.le_trans q h.1
  · have q := join_mem_list (z := y) hz hs
    rw [e] at q
    exact h.2 s q
/-! ### comprehensions over a mapped list -/
section
variable {c : Fc} {Γ : List Sl} {n : Nat} {g : TG} {tt : TT} {te : TE} {vs js : List Nat} {k : List Dt → Nat → Prop} {α : Type}
end
/-! ### by one name -/
section
variable {c : Fc} {Γ : List Sl} {n i : Nat} {wi : TI} {tt : TT} {te : TE} {tb : TS} {N : Nd} {k : Dt → Nat → Prop}
end
end
section
open PySem.Builtin PySem.Builtin.Str
/-! ### repr: how long, which signs -/
def okC (x : PySem.Str) : Prop := ∀ s ∈ x.cps.toList, s < 1114112
theorem okC_app {x y : PySem.Str} (h1 : okC x) (h2 : okC y) : okC (x ++ y) := fun s hs => by
  rw [app_list] at hs
  exact (List.mem_append.mp hs).elim (h1 s) (h2 s)
theorem char_lt (ch : Char) : ch.toNat < 1114112 := by
  have h := ch.valid
  unfold UInt32.isValidChar Nat.isValidChar at h
  show ch.val.toNat < 1114112
  omega
theorem okC_of (s : String) : okC (Str.ofString s) := fun c hc => by
  have e : (Str.ofString s).cps.toList = s.toList.map Char.toNat := cpsOfBytes_string s
  rw [e, List.mem_map] at hc
  obtain ⟨ch, _, rfl⟩ := hc
  exact char_lt ch
theorem tf_len : ∀ (ts : List PySem.Str) (k : Nat) (acc : PySem.Str), (textFrom k acc ts).length ≤ acc.length + (ts.map fun t => t.length + 2).sum
  | [], k, acc => by simp [textFrom]
  | t :: r, k, acc => by
    have ih := tf_len r (k + 1) (acc ++ (if k > 0 then ", " else "" : String) ++ t)
    rw [Str.length_append, Str.length_append] at ih
    have e : (Str.ofString (if k > 0 then ", " else "" : String)).length ≤ 2 := by split <;> decide
    show (textFrom (k + 1) (acc ++ (if k > 0 then ", " else "" : String) ++ t) r).length ≤ _
    rw [List.map_cons, List.sum_cons]
    omega
theorem tf_chr : ∀ (ts : List PySem.Str) (k : Nat) (acc : PySem.Str), okC acc → (∀ t ∈ ts, okC t) → okC (textFrom k acc ts)
  | [], k, acc, h, _ => h
  | t :: r, k, acc, h, ht => tf_chr r (k + 1) _ (okC_app (okC_app h (okC_of _)) (ht t (by simp))) fun u hu => ht u (by simp [hu])
theorem jn_len : ∀ (ts : List PySem.Str), (Str.join ", " ts).length ≤ (ts.map fun t => t.length + 2).sum
  | [] => by simp [Str.join]; rfl
  | [x] => by simp [Str.join]
  | x :: y :: r => by
    have ih := jn_len (y :: r)
    show (x ++ ", " ++ Str.join ", " (y :: r)).length ≤ _
    rw [Str.length_append, Str.length_append, List.map_cons, List.sum_cons]
    have e : (Str.ofString ", ").length = 2 := rfl
    omega
theorem jn_chr : ∀ (ts : List PySem.Str), (∀ t ∈ ts, okC t) → okC (Str.join ", " ts)
  | [], _ => fun s hs => by simp [Str.join, Str.empty] at hs
  | [x], h => h x (by simp)
  | x :: y :: r, h => okC_app (okC_app (h x (by simp)) (okC_of _)) (jn_chr (y :: r) fun t ht => h t (by simp [ht]))
theorem rc_chr {q c : Nat} (hq : q < 1114112) (hc : c < 1114112) : ∀ s ∈ reprChar q c, s < 1114112 := by
  have hx : ∀ w, ∀ s ∈ List.replicate w 48 ++ (Nat.toDigits 16 c).map Char.toNat, s < 1114112 := fun w s hs => by
    rcases List.mem_append.mp hs with h | h
    · have := (List.mem_replicate.mp h).2
      omega
    · obtain ⟨ch, _, rfl⟩ := List.mem_map.mp h
      exact char_lt ch
  intro s hs
  unfold reprChar at hs
  dsimp only at hs
  repeat' split at hs
  all_goals first
    | (rcases List.mem_append.mp hs with h | h
       · simp at h
         omega
       · exact hx _ s h)
    | (simp at hs
       omega)
theorem fold_chr (q : Nat) (hq : q < 1114112) : ∀ (l : List Nat) (acc : Array Nat), (∀ c ∈ l, c < 1114112) → (∀ c ∈ acc.toList, c < 1114112) → ∀ s ∈ (l.foldl (fun out c => out ++ (reprChar q c).toArray) acc).toList, s < 1114112
  | [], acc, _, h, s, hs => h s hs
  | c :: r, acc, hl, h, s, hs => by
    refine fold_chr q hq r _ (fun d hd => hl d (by simp [hd])) (fun d hd => ?_) s hs
    simp only [Array.toList_append, List.mem_append] at hd
    rcases hd with hd | hd
    · exact h d hd
    · exact rc_chr hq (hl c (by simp)) d hd
theorem rt_chr {x : PySem.Str} (h : okC x) : okC (reprText x) := by
  intro s hs
  have hq : reprQuote x < 1114112 := by
    unfold reprQuote
    split <;> decide
  unfold reprText at hs
  simp only [Array.toList_push, List.mem_append, List.mem_singleton] at hs
  rcases hs with hs | hs
  · rw [← Array.foldl_toList] at hs
    exact fold_chr _ hq _ _ h (fun c hc => by simp at hc; omega) s hs
  · omega
/-! ### data that repr takes -/
def okCb (x : PySem.Str) : Bool := x.cps.toList.all fun s => decide (s < 1114112)
theorem okCb_ok {x : PySem.Str} (h : okCb x = true) : okC x := fun s hs => of_decide_eq_true (List.all_eq_true.mp h s hs)
theorem okCb_of {x : PySem.Str} (h : okC x) : okCb x = true := List.all_eq_true.mpr fun s hs => decide_eq_true (h s hs)
def keyRo : Key → Bool
  | .inl i => decide (i.natAbs.log2 < 1920)
  | .inr x => okCb x
def keyRw : Key → Nat
  | .inl _ => 1921
  | .inr x => 10 * x.length + 2
mutual
def Dt.ro : Nat → Dt → Bool
  | _, .non => true
  | _, .bl _ => true
  | _, .int i => decide (i.natAbs.log2 < 1920)
  | _, .str x => okCb x
  | k + 1, .lst xs => Dt.ros k xs
  | k + 1, .tup xs => Dt.ros k xs
  | k + 1, .dic ks xs => ks.all keyRo && Dt.ros k xs
  | _, _ => false
def Dt.ros : Nat → List Dt → Bool
  | _, [] => true
  | k, x :: xs => Dt.ro k x && Dt.ros k xs
end
mutual
def Dt.rw : Dt → Nat
  | .non => 4
  | .bl _ => 5
  | .int _ => 1921
  | .str x => 10 * x.length + 2
  | .lst xs => 2 + Dt.rws xs
  | .tup xs => 3 + Dt.rws xs
  | .dic ks xs => 2 + (ks.map fun q => keyRw q + 2).sum + Dt.rws xs
  | _ => 0
def Dt.rws : List Dt → Nat
  | [] => 0
  | x :: xs => Dt.rw x + 2 + Dt.rws xs
end
theorem int_sh {i : Int} (h : i.natAbs.log2 < 1920) : (Str.ofString (toString i)).length ≤ 1921 := PyProof.Rows.int_text_len_1921 h
theorem str_sh {x : PySem.Str} (h : okC x) : (reprText x).length ≤ 10 * x.length + 2 := StrLaws.reprText_len x fun c hc => Nat.lt_trans (h c hc) (by decide)
theorem key_sh {q : Key} (h : keyRo q = true) : (keyP q).showable = true ∧ (keyP q).depth = 0 ∧ (keyP q).shown.length ≤ keyRw q ∧ okC (keyP q).shown := by
  cases q with
  | inl i =>
    have h' := of_decide_eq_true h
    exact ⟨decide_eq_true h', rfl, int_sh h', okC_of _⟩
  | inr x =>
    have h' := okCb_ok h
    exact ⟨rfl, rfl, str_sh h', rt_chr h'⟩
theorem kv_sh : ∀ (ks : List Key) (es : List PyData) (k w : Nat), ks.all keyRo = true → PyData.showableAll es = true → PyData.depthAll es ≤ k → ((PyData.shownAll es).map fun t => t.length + 2).sum ≤ w → (∀ t ∈ PyData.shownAll es, okC t) →
    PyData.showableKv ((ks.map keyP).zip es) = true ∧ PyData.depthKv ((ks.map keyP).zip es) ≤ k ∧ ((PyData.shownKv ((ks.map keyP).zip es)).map fun t => t.length + 2).sum ≤ (ks.map fun q => keyRw q + 2).sum + w ∧ ∀ t ∈ PyData.shownKv ((ks.map keyP).zip es), okC t
  | [], es, k, w, _, _, _, _, _ => ⟨by simp [PyData.showableKv], by simp [PyData.depthKv], by simp [PyData.shownKv], by simp [PyData.shownKv]⟩
  | q :: ks, [], k, w, _, _, _, _, _ => ⟨by simp [PyData.showableKv], by simp [PyData.depthKv], by simp [PyData.shownKv], by simp [PyData.shownKv]⟩
  | q :: ks, e :: es, k, w, h1, h2, h3, h4, h5 => by
    rw [List.all_cons, Bool.and_eq_true] at h1
    have h2' : e.showable = true ∧ PyData.showableAll es = true := by simpa [PyData.showableAll] using h2
    have h3' : e.depth ≤ k ∧ PyData.depthAll es ≤ k := by
      simp only [PyData.depthAll] at h3
      omega
    simp only [PyData.shownAll, List.map_cons, List.sum_cons] at h4
    have h5a : okC e.shown := h5 _ (by simp [PyData.shownAll])
    have h5b : ∀ t ∈ PyData.shownAll es, okC t := fun t ht => h5 t (by simp [PyData.shownAll, ht])
    obtain ⟨a1, a2, a3, a4⟩ := key_sh h1.1
    obtain ⟨b1, b2, b3, b4⟩ := kv_sh ks es k (w - (e.shown.length + 2)) h1.2 h2'.2 h3'.2 (by omega) h5b
    rw [List.map_cons, List.zip_cons_cons]
    refine ⟨by simp [PyData.showableKv, a1, h2'.1, b1], ?_, ?_, ?_⟩
    · simp only [PyData.depthKv]
      rw [a2]
      omega
    · simp only [PyData.shownKv, List.map_cons, List.sum_cons]
      rw [Str.length_append, Str.length_append]
      have e2 : (Str.ofString ": ").length = 2 := rfl
      omega
    · intro t ht
      simp only [PyData.shownKv, List.mem_cons] at ht
      rcases ht with rfl | ht
      · exact okC_app (okC_app a4 (okC_of _)) h5a
      · exact b4 t ht
mutual
theorem ro_sh : ∀ (k : Nat) (d : Dt), d.ro k = true → ∃ e, d.pyd = some e ∧ e.showable = true ∧ e.depth ≤ k ∧ e.shown.length ≤ d.rw ∧ okC e.shown
  | _, .non, _ => ⟨.none, rfl, rfl, Nat.zero_le _, by simp only [PyData.shown, Dt.rw]; decide, okC_of _⟩
  | _, .bl b, _ => ⟨.bool b, rfl, rfl, Nat.zero_le _, by cases b <;> simp only [PyData.shown, Dt.rw] <;> decide, by cases b <;> (simp only [PyData.shown]; exact okC_of _)⟩
  | _, .int i, h => by
    have h' : i.natAbs.log2 < 1920 := by simpa [Dt.ro] using h
    exact ⟨.int i, rfl, by simpa [PyData.showable] using h', Nat.zero_le _, by simp only [PyData.shown, Dt.rw]; exact int_sh h', okC_of _⟩
  | _, .str x, h => by
    have h' : okC x := okCb_ok (by simpa [Dt.ro] using h)
    exact ⟨.str x, rfl, rfl, Nat.zero_le _, by simp only [PyData.shown, Dt.rw]; exact str_sh h', by simp only [PyData.shown]; exact rt_chr h'⟩
  | 0, .lst xs, h => by simp [Dt.ro] at h
  | 0, .tup xs, h => by simp [Dt.ro] at h
  | 0, .dic _ xs, h => by simp [Dt.ro] at h
  | k + 1, .lst xs, h => by
    obtain ⟨es, h1, h2, h3, h4, h5⟩ := ros_sh k xs (by simpa [Dt.ro] using h)
    refine ⟨.list es, ?_, by simpa [PyData.showable] using h2, by simpa [PyData.depth] using h3, ?_, ?_⟩
    · show (Dt.pydAll xs).map PyData.list = _
      rw [h1]; rfl
    · simp only [PyData.shown, Dt.rw]
      unfold listText
      rw [Str.length_append]
      have a := tf_len (PyData.shownAll es) 0 "["
      have e1 : (Str.ofString "[").length = 1 := rfl
      have e2 : (Str.ofString "]").length = 1 := rfl
      omega
    · simp only [PyData.shown]
      exact okC_app (tf_chr _ _ _ (okC_of _) h5) (okC_of _)
  | k + 1, .tup xs, h => by
    obtain ⟨es, h1, h2, h3, h4, h5⟩ := ros_sh k xs (by simpa [Dt.ro] using h)
    refine ⟨.tuple es, ?_, by simpa [PyData.showable] using h2, by simpa [PyData.depth] using h3, ?_, ?_⟩
    · show (Dt.pydAll xs).map PyData.tuple = _
      rw [h1]; rfl
    · simp only [PyData.shown, Dt.rw]
      unfold tupleText
      rw [Str.length_append, Str.length_append]
      have a := jn_len (PyData.shownAll es)
      have e1 : (Str.ofString "(").length = 1 := rfl
      have e2 : (Str.ofString (if (PyData.shownAll es).length == 1 then ",)" else ")" : String)).length ≤ 2 := by split <;> decide
      omega
    · simp only [PyData.shown]
      exact okC_app (okC_app (okC_of _) (jn_chr _ h5)) (okC_of _)
  | k + 1, .dic ks xs, h => by
    have h' : ks.all keyRo = true ∧ Dt.ros k xs = true := by simpa [Dt.ro] using h
    obtain ⟨es, h1, h2, h3, h4, h5⟩ := ros_sh k xs h'.2
    obtain ⟨b1, b2, b3, b4⟩ := kv_sh ks es k (Dt.rws xs) h'.1 h2 h3 h4 h5
    refine ⟨.dict ((ks.map keyP).zip es), ?_, by simpa [PyData.showable] using b1, by simpa [PyData.depth] using b2, ?_, ?_⟩
    · show (Dt.pydAll xs).map _ = _
      rw [h1]; rfl
    · simp only [PyData.shown, Dt.rw]
      unfold dictText
      rw [Str.length_append, Str.length_append]
      have a := jn_len (PyData.shownKv ((ks.map keyP).zip es))
      have e1 : (Str.ofString "{").length = 1 := rfl
      have e2 : (Str.ofString "}").length = 1 := rfl
      omega
    · simp only [PyData.shown]
      exact okC_app (okC_app (okC_of _) (jn_chr _ b4)) (okC_of _)
  | _, .obj _ _ _, h => by simp [Dt.ro] at h
  | _, .err _ _ _, h => by simp [Dt.ro] at h
  | _, .pen, h => by simp [Dt.ro] at h
  | _, .cls _, h => by simp [Dt.ro] at h
theorem ros_sh : ∀ (k : Nat) (ds : List Dt), Dt.ros k ds = true → ∃ es, Dt.pydAll ds = some es ∧ PyData.showableAll es = true ∧ PyData.depthAll es ≤ k ∧ ((PyData.shownAll es).map fun t => t.length + 2).sum ≤ Dt.rws ds ∧ ∀ t ∈ PyData.shownAll es, okC t
  | _, [], _ => ⟨[], rfl, rfl, Nat.zero_le _, by simp [PyData.shownAll], by simp [PyData.shownAll]⟩
  | k, d :: ds, h => by
    have h' : d.ro k = true ∧ Dt.ros k ds = true := by simpa [Dt.ros] using h
    obtain ⟨e, h1, h2, h3, h4, h5⟩ := ro_sh k d h'.1
    obtain ⟨es, a1, a2, a3, a4, a5⟩ := ros_sh k ds h'.2
    refine ⟨e :: es, ?_, by simp [PyData.showableAll, h2, a2], by simp only [PyData.depthAll]; omega, ?_, ?_⟩
    · show ((Dt.pyd d).bind fun x => (Dt.pydAll ds).map fun xs => x :: xs) = _
      rw [h1, a1]; rfl
    · simp only [PyData.shownAll, List.map_cons, List.sum_cons, Dt.rws]
      omega
    · intro t ht
      simp only [PyData.shownAll, List.mem_cons] at ht
      rcases ht with rfl | ht
      · exact h5
      · exact a5 t ht
end
/-- repr's text -/
def Dt.sh (d : Dt) : PySem.Str := match d.pyd with
  | some e => e.shown
  | none => ""
theorem sh_ok {k : Nat} {d : Dt} (h : d.ro k = true) : d.sh.length ≤ d.rw ∧ okC d.sh := by
  obtain ⟨e, h1, _, _, h4, h5⟩ := ro_sh k d h
  have q : d.sh = e.shown := by unfold Dt.sh; rw [h1]
  rw [q]
  exact ⟨h4, h5⟩
theorem c_reprD {c : Fc} {k : Dt → Nat → Prop} {n : Nat} {d : Dt} {j : Nat} (hs : ∃ o, c.K.lookup sysModules = some o) (hd : d.ro j = true) (hj : j ≤ 100) (hz : d.rw ≤ 16777216) (h : k (.str d.sh) n) : RCD c (rRepr c.K) [d] n k := by
  obtain ⟨e, h1, h2, h3, h4, h5⟩ := ro_sh j d hd
  have q : d.sh = e.shown := by unfold Dt.sh; rw [h1]
  refine c_repr h1 (fun _ => hs) ?_ (Nat.ble_eq_true_of_le (Nat.le_trans h4 hz)) (by rw [← q]; exact h)
  unfold shows
  rw [h2, decide_eq_true (by omega)]
  rfl
end
section
open HT
/-! ### t[::-1] of a tuple -/
section
variable {prog : Program} {w : World} {A : Around} {E : Value → Shared → Prop} {s : Shared}
theorem adjust_rev (n : Nat) : Builtin.Slice.sliceAdjust none none (-1) (n : Int) = ((n : Int) - 1, -1) := by
  unfold Builtin.Slice.sliceAdjust
  rfl
theorem places_rev (n : Nat) : Builtin.Slice.slicePlaces ((n : Int) - 1) (-1) (-1) = n := by
  unfold Builtin.Slice.slicePlaces
  have h1 : ¬ ((-1 : Int) > 0) := by decide
  rw [if_neg h1]
  split
  · rw [show (-(-1) : Int) = 1 by decide, Int.ediv_one]
    omega
  · omega
theorem sliceApplied_rev {sl : Addr} {vl vu vs : Value} {n : Nat} {Q : Int × Int × Nat → Shared → Prop} (hs : s.heap.IsSliceOf sl vl vu vs) (pl : IsPart vl none) (pu : IsPart vu none) (ps : IsPart vs (some (-1)))
    (h : Q ((n : Int) - 1, -1, n) s) : wpAny (model prog w) A (Builtin.Slice.sliceApplied (.ref sl) (pure (n : Int))) Q E s := by
  obtain ⟨os, hos, hcs, hds⟩ := id hs
  unfold Builtin.Slice.sliceApplied Builtin.Slice.sliceFields
  refine wpAny_bind (wpAny_bind (wpAny_field hos hds (x := vl) rfl (wpAny_bind (wpAny_field hos hds (x := vu) rfl (wpAny_bind (wpAny_field hos hds (x := vs) rfl (wpAny_pure ?_)))))))
  refine wpAny_bind (slicePart_ ps ?_)
  show wpAny _ _ (if ((-1 : Int) == 0) = true then _ else _) _ _ s
  rw [if_neg (by decide)]
  refine wpAny_bind (slicePart_ pl (wpAny_bind (slicePart_ pu (wpAny_bind (wpAny_pure ?_)))))
  show wpAny _ _ (match Builtin.Slice.sliceAdjust none none (-1) (n : Int) with | (lo, hi) => pure (lo, (-1 : Int), Builtin.Slice.slicePlaces lo hi (-1))) _ _ s
  rw [adjust_rev n]
  show wpAny _ _ (pure ((n : Int) - 1, (-1 : Int), Builtin.Slice.slicePlaces ((n : Int) - 1) (-1) (-1))) _ _ s
  rw [places_rev]
  exact wpAny_pure h
theorem fm_congr {α β : Type} {f g : α → Option β} : ∀ {l : List α}, (∀ x ∈ l, f x = g x) → l.filterMap f = l.filterMap g
  | [], _ => rfl
  | a :: l, h => by
    rw [List.filterMap_cons, List.filterMap_cons, h a (by simp), fm_congr fun x hx => h x (by simp [hx])]
theorem pick_rev (xs : Array Value) : ((List.range xs.size).filterMap fun (m : Nat) => xs[((xs.size : Int) - 1 + (m : Int) * -1).toNat]?).toArray = xs.toList.reverse.toArray := by
  congr 1
  have e : ∀ m ∈ List.range xs.size, xs[((xs.size : Int) - 1 + (m : Int) * -1).toNat]? = xs[xs.size - 1 - m]? := fun m hm => by
    have := List.mem_range.mp hm
    have : ((xs.size : Int) - 1 + (m : Int) * -1).toNat = xs.size - 1 - m := by omega
    rw [this]
  rw [fm_congr e]
  have e2 : (List.range xs.size).filterMap (fun m => xs[xs.size - 1 - m]?) = ((List.range xs.size).map (fun k => xs.size - 1 - k)).filterMap (xs[·]?) := by
    rw [List.filterMap_map]
    rfl
  rw [e2, PySem.W.krv_range, List.filterMap_reverse, PySem.W.krv_all]
theorem getItem_tuple_rev {t sl : Addr} {items : Array Value} {vl vu vs : Value} {Q : Value → Shared → Prop} (ht : IsTup s.heap t items) (hs : s.heap.IsSliceOf sl vl vu vs) (pl : IsPart vl none) (pu : IsPart vu none) (ps : IsPart vs (some (-1)))
    (h : Q (.ref s.heap.objs.size) { s with heap := s.heap.push { cls := .type "tuple", data := .seq items.toList.reverse.toArray } })
    (hsz : items.size ≤ sizeLine) : wpAny (model prog w) A (getItem (.ref t) (.ref sl)) Q E s := by
  have htake : sizeOk (.seq items.toList.reverse.toArray) := by
    show items.toList.reverse.toArray.size ≤ sizeLine
    rw [List.size_toArray, List.length_reverse, Array.length_toList]
    exact hsz
  obtain ⟨os, hos, hcs, hds⟩ := id hs
  have hTs : s.TypeIs (.ref sl) "slice" := ⟨os, hos, hcs⟩
  unfold getItem
  try with_reducible refine wpAny_holding ?_
  first | refine wpAny_bind (wpAny_pure ?_) | skip
  refine wpAny_bind (wpAny_sequenceKey ht.typeIs (by decide) ?_)
  refine wpAny_bind (wpAny_callSpecial?_slot (name := Str.ofString "__getitem__") ht.typeIs PyProof.Rows.slot_tuple_getitem
    (wpAny_call_entry PyProof.Rows.slot_tuple_getitem ht.typeIs entry_tuple_getitem ?_ (args_tuple_getitem _ _)))
  show wpAny _ _ (Builtin.Tuple.tupleItemsOf (.ref t) >>= _) _ _ s
  refine wpAny_bind (tupleItemsOf_ ht ?_)
  refine wpAny_bind (wpAny_typeOf hTs ?_)
  rw [if_pos (by decide)]
  refine wpAny_bind (sliceApplied_rev hs pl pu ps ?_)
  have hno : ¬ (((items.size : Int) - 1 == 0 && (-1 : Int) == 1 && items.size == items.size) = true) := by
    intro q
    rw [Bool.and_eq_true, Bool.and_eq_true] at q
    exact absurd q.1.2 (by decide)
  show wpAny _ _ (if ((items.size : Int) - 1 == 0 && (-1 : Int) == 1 && items.size == items.size) = true then _ else _) _ _ s
  rw [if_neg hno, pick_rev]
  first
    | exact wpAny_bind (m := Builtin.Tuple.tupleExact _) (wpAny_newObj_type (wpAny_pure ⟨_, rfl, wpAny_pure h⟩) htake)
    | exact wpAny_bind (m := Builtin.Tuple.tupleExact _) (wpAny_newObj_type (wpAny_bind (wpAny_pure (wpAny_pure ⟨_, rfl, wpAny_pure h⟩))) htake)
    | exact wpAny_bind (wpAny_bind (m := Builtin.Tuple.tupleExact _) (wpAny_newObj_type (wpAny_pure (wpAny_pure ⟨_, rfl, wpAny_pure h⟩)) htake))
    | exact wpAny_bind (wpAny_bind (m := Builtin.Tuple.tupleExact _) (wpAny_newObj_type (wpAny_pure ⟨_, rfl, wpAny_pure h⟩) htake))
end
section
variable {X : Cx}
/-- x[::-1], a list or a tuple -/
def tRev (K : PySem.W.Frag) (te : TE) : TE := fun σ H Q => te σ H fun x H1 => (∃ a xs, x = .ref a ∧ SqL K H1 a xs ∧ ∀ p, H1 p = none → Q (.ref p) (upd H1 p (.lst xs.reverse))) ∨ (∃ a xs, x = .ref a ∧ SqT K H1 a xs ∧ ∀ p, H1 p = none → Q (.ref p) (upd H1 p (.tup xs.reverse)))
theorem pe_rev {e : Expr} {te : TE} {k : Nat} {p1 p2 p3 pos : Pos} (he : PE X e te) : PE X (.Subscript e (.Slice none none (some (.UnaryOp .USub (.Constant (.int 1) k p1) p2)) p3) pos) (tRev X.K te) := by
  refine ⟨fun pins s σ H Q I h => ?_⟩
  refine Subscript_ (thn (he.run pins s σ H _ I h) fun v s1 ⟨x, H1, I1, r1, q1⟩ => ?_)
  have hst : PO X (some (.UnaryOp .USub (.Constant (.int 1) k p1) p2)) (tPart (tUn (rU fun i => .int (-i)) (tC (.int 1)))) := po_some (pe_un un_neg pe_int)
  refine wpAny_Slice (thn (po_none.run pins s1 σ H1 (fun o H2 => o = none ∧ H2 = H1) I1 ⟨rfl, rfl⟩) fun vl s2 ⟨l, H2, I2, pl, el, e2⟩ => ?_)
  subst el e2
  refine thn (po_none.run pins s2 σ H2 (fun o H3 => o = none ∧ H3 = H2) I2 ⟨rfl, rfl⟩) fun vu s3 ⟨u, H3, I3, pu, eu, e3⟩ => ?_
  subst eu e3
  refine thn (hst.run pins s3 σ H3 (fun o H4 => o = some (-1) ∧ H4 = H3) I3 ⟨1, rfl, -1, rfl, rfl, rfl⟩) fun vs s4 ⟨o, H4, I4, ps, eo, e4⟩ => ?_
  subst eo e4
  have I5 : Inv X pins σ H4 { s4 with heap := s4.heap.push { cls := .type "slice", data := .fields #[vl, vu, vs] } } := I4.kept (t' := s4.toks) fun b ob q => Heap.get?_push_of_some _ q
  rcases q1 with ⟨a, xs, ex, hx, q⟩ | ⟨a, xs, ex, hx, q⟩
  · subst ex
    cases r1
    obtain ⟨its, r, ht, hz⟩ := I5.list hx
    have hlen := r.length
    show wpAny (model X.prog X.w) X.A (subscriptTail e (.Slice none none (some (.UnaryOp .USub (.Constant (.int 1) k p1) p2)) p3) (.ref a) (.ref s4.heap.objs.size)) (EP X pins σ Q) X.xe { s4 with heap := s4.heap.push { cls := .type "slice", data := .fields #[vl, vu, vs] } }
    refine tail_any (ops := [.ref a, .ref s4.heap.objs.size]) ht.isList.typeIs (PySem.slot_list_getitem.lookup) ?_ (by with_unfolding_all rfl)
    refine wpAny_getItem_list_slice ht.isList (Heap.IsSliceOf.new _ vl vu vs) pl pu ps (by decide) ?_ (by rw [List.size_toArray]; omega)
    rw [PySem.W.krv_pick]
    refine ⟨.ref _, _, I5.laid (t' := s4.toks) (o := .lst xs.reverse) (fun b ob q => Heap.get?_push_of_some _ q) (Nat.le_refl _) ?_, rfl, q _ (I5.hok.fresh (Nat.le_refl _))⟩
    exact ⟨by rw [List.length_reverse]; exact hz, _, 0, r.reverse, Heap.get?_push_size _ rfl⟩
  · subst ex
    cases r1
    obtain ⟨its, r, ht, hz⟩ := I5.tuple hx
    have hlen := r.length
    show wpAny (model X.prog X.w) X.A (subscriptTail e (.Slice none none (some (.UnaryOp .USub (.Constant (.int 1) k p1) p2)) p3) (.ref a) (.ref s4.heap.objs.size)) (EP X pins σ Q) X.xe { s4 with heap := s4.heap.push { cls := .type "slice", data := .fields #[vl, vu, vs] } }
    refine tail_any (ops := [.ref a, .ref s4.heap.objs.size]) ht.typeIs (PyProof.Rows.slot_tuple_getitem.lookup) ?_ (by with_unfolding_all rfl)
    refine getItem_tuple_rev ht (Heap.IsSliceOf.new _ vl vu vs) pl pu ps ?_ (by rw [List.size_toArray]; omega)
    refine ⟨.ref _, _, I5.laid (t' := s4.toks) (o := .tup xs.reverse) (fun b ob q => Heap.get?_push_of_some _ q) (Nat.le_refl _) ?_, rfl, q _ (I5.hok.fresh (Nat.le_refl _))⟩
    exact ⟨by rw [List.length_reverse]; exact hz, _, r.reverse, IsTup.new _ _⟩
end
/-! ### t * 1 -/
theorem tuple_mulW1 (l : Addr) (items : Array Value) (n : Nat) (dd : Option Addr) (sl : Array (Option Value)) (u : Tok) :
    Meets (Builtin.«tuple.__mul__» ⟨[.ref l, .int 1 u], []⟩) (fun _ R s => s.heap.get? l = some { cls := .type "tuple", dict := dd, data := .seq items n, slots := sl } ∧
      R (.ok (.ret (Value.ref l))) s) :=
  .of_wp fun prog w A R s h => by
    obtain ⟨hp, g, d, tk, os⟩ := s
    obtain ⟨hl, h⟩ := h
    have f1 := AutoSeq1.idx_int
    wp_walk using wpAny_loadPart' hl
    exact ⟨_, rfl, h⟩
def rRepT1 (K : PySem.W.Frag) : R2 := fun x y H Q => ∃ l xs, x = .ref l ∧ y = .int 1 ∧ SqT K H l xs ∧ Q (.ref l) H
section
variable {X : Cx}
theorem op_repT1 : OpR X (binaryOp .Mult) (rRepT1 X.K) := by
  intro pins s σ H x y v u Q I rx ry h
  obtain ⟨l, xs, rfl, rfl, hT, q⟩ := h
  cases rx
  obtain ⟨t, rfl⟩ := ry
  obtain ⟨its, r, ⟨⟨cls, dd, data, sl⟩, ho, hc, n, hd⟩, hs⟩ := I.tuple hT
  simp only at hc hd
  subst hc hd
  refine wpAny_binaryOp_repeat_ref (T := "tuple") (U := "int") (by decide) ⟨_, ho, rfl⟩ (fun s' => typeIs_int s' 1 t) noFill_tuple_mul F.fills_int_mul F.slot_int_rmul repeat_tuple F.slot_int_index.lookup
    (call_meets F.slot_int_rmul (typeIs_int s 1 t) F.entry_int_rmul (F.args_int_rmul_2 _ _) (int_rmul_tuple 1 t l its.toArray n dd sl)
      ⟨ho, rfl, ⟨_, ho, rfl⟩, call_meets F.slot_tuple_mul ⟨_, ho, rfl⟩ F.entry_tuple_mul (F.args_tuple_mul_2 _ _) (tuple_mulW1 l its.toArray n dd sl t) ⟨ho, ?_⟩⟩)
  exact ⟨.ref l, H, I, rfl, q⟩
def rMulX (K : PySem.W.Frag) : R2 := fun x y H Q => rMul x y H Q ∨ rRepT K x y H Q ∨ rRepT1 K x y H Q
theorem o_mulX : OpR X (binaryOp .Mult) (rMulX X.K) := OpR.or o_mul (OpR.or op_repT op_repT1)
def rLtX (K : PySem.W.Frag) : R2 := fun x y H Q => rLt x y H Q ∨ rLtT K x y H Q
theorem o_ltX (hu : X.A.units < cLine) : OpR X (compareOp .Lt) (rLtX X.K) := OpR.or o_lt (op_ltT hu)
end
section
variable {c : Fc} {n : Nat} {k : Dt → Prop} {Γ : List Sl}
theorem r_or {r r' : R2} {d e : Dt} (h : R2D c n r d e k) : R2D c n (fun x y H Q => r x y H Q ∨ r' x y H Q) d e k := fun av H x y lv pa h1 h2 Q q => .inl (h av H x y lv pa h1 h2 Q q)
theorem r_mulXI {i j : Int} (hm : CMul i j) (h : k (.int (i * j))) : R2D c n (rMulX c.K) (.int i) (.int j) k := r_or (r_mulI hm h)
theorem r_mulXL {ds : List Dt} {m : Int} (h0 : -(2 ^ 63) ≤ m) (h1 : m < 2 ^ 63) (hz : szOk (ds.length * m.toNat) = true) (h : k (.lst (List.replicate m.toNat ds).flatten)) : R2D c n (rMulX c.K) (.lst ds) (.int m) k := r_or (r_mulL h0 h1 hz h)
theorem r_mulT {ds : List Dt} {m : Int} (h0 : 1 ≤ m) (h1 : m ≤ 1000) (hz : ds ≠ [] ∧ ds.length ≤ 1000) (h : k (.tup (List.replicate m.toNat ds).flatten)) : R2D c n (rMulX c.K) (.tup ds) (.int m) k := by
  intro av H x y lv pa a b Q q
  cases b
  cases a with
  | tup a2 a3 =>
    by_cases hm : m = 1
    · subst hm
      have e : (List.replicate (Int.toNat 1) ds).flatten = ds := by
        show (List.replicate 1 ds).flatten = ds
        simp
      rw [e] at h
      exact .inr (.inr ⟨_, _, rfl, rfl, a2.sq, q _ H _ (Same.refl H) (.tup a2 a3) h⟩)
    · refine .inr (.inl ⟨_, m, _, rfl, rfl, a2.sq, fun z => ?_, by omega, h1, by rw [a3.length]; exact hz.2, fun p hp => ?_⟩)
      · have := a3.length
        rw [z] at this
        exact hz.1 (List.eq_nil_of_length_eq_zero this.symm)
      · exact q _ _ _ (same_new hp) (Da.newT lv hp (a3.rep _)) h
theorem r_ltXI {i j : Int} (h : k (.bl (decide (i < j)))) : R2D c n (rLtX c.K) (.int i) (.int j) k := r_or (r_ltI h)
theorem r_ltXS {i j : Str} (h : k (.bl (decide (i.cps.toList < j.cps.toList)))) : R2D c n (rLtX c.K) (.str i) (.str j) k := r_or (r_ltS h)
def intsE : List Dt → Option (List Int)
  | [] => some []
  | .int b :: ds => (intsE ds).map (b :: ·)
  | _ => none
theorem intsE_ok : ∀ {ds : List Dt} {bs : List Int}, intsE ds = some bs → ds = bs.map Dt.int
  | [], _, h => by cases h; rfl
  | .int b :: ds, bs, h => by
    obtain ⟨cs, h1, rfl⟩ := Option.map_eq_some_iff.mp (show (intsE ds).map (b :: ·) = some bs from h)
    rw [intsE_ok h1]
    rfl
theorem intsE_map (bs : List Int) : intsE (bs.map Dt.int) = some bs := by
  induction bs with
  | nil => rfl
  | cons b bs ih =>
    show (intsE (bs.map Dt.int)).map (b :: ·) = _
    rw [ih]
    rfl
theorem r_ltT {xs ys : List Int} (h : k (.bl (HT.lexLt xs ys))) : R2D c n (rLtX c.K) (.tup (xs.map Dt.int)) (.tup (ys.map Dt.int)) k := by
  intro av H x y lv pa h1 h2 Q q
  cases h1 with
  | tup a2 a3 =>
    cases h2 with
    | tup b2 b3 =>
      have e1 := a3.ints
      have e2 := b3.ints
      subst e1 e2
      exact .inr ⟨_, _, xs, ys, rfl, rfl, a2.sq, b2.sq, q _ H _ (Same.refl H) (.bl _) h⟩
theorem DaAll.rev {c : Wc} {av : Addr → Prop} {H : Hp} : ∀ {vs : List V} {ds : List Dt}, DaAll c av H vs ds → DaAll c av H vs.reverse ds.reverse
  | _, _, .nil => .nil
  | _, _, .cons h t => by
    rw [List.reverse_cons, List.reverse_cons]
    exact (DaAll.rev t).append (.cons h .nil)
def revE : Dt → Option Dt
  | .lst ds => some (.lst ds.reverse)
  | .tup ds => some (.tup ds.reverse)
  | _ => none
end
/-! ### keywords in another order than the parameters -/
abbrev gPm (ix : List Nat) : {α : Type} → List α → List α → List α := fun us ws => us ++ ix.filterMap fun i => ws[i]?
theorem vals_get : ∀ {zs : List V} {ws : List Value} (i : Nat), Vals zs ws → (zs[i]? = none ∧ ws[i]? = none) ∨ ∃ z w, zs[i]? = some z ∧ ws[i]? = some w ∧ RelV z w
  | _, _, i, .nil => .inl ⟨by simp, by simp⟩
  | _, _, 0, .cons h _ => .inr ⟨_, _, by simp, by simp, h⟩
  | _, _, i + 1, .cons _ t => by
    rcases vals_get i t with ⟨a, b⟩ | ⟨z, w, a, b, c⟩
    · exact .inl ⟨by simpa using a, by simpa using b⟩
    · exact .inr ⟨z, w, by simpa using a, by simpa using b, c⟩
theorem vals_pick {zs : List V} {ws : List Value} (h : Vals zs ws) : ∀ ix : List Nat, Vals (ix.filterMap fun i => zs[i]?) (ix.filterMap fun i => ws[i]?)
  | [] => .nil
  | i :: ix => by
    rcases vals_get i h with ⟨a, b⟩ | ⟨z, w, a, b, c⟩
    · rw [List.filterMap_cons, List.filterMap_cons, a, b]; exact vals_pick h ix
    · rw [List.filterMap_cons, List.filterMap_cons, a, b]; exact .cons c (vals_pick h ix)
theorem rel_pm (ix : List Nat) {vs zs : List V} {us ws : List Value} (h1 : Vals vs us) (h2 : Vals zs ws) : Vals (gPm ix vs zs) (gPm ix us ws) := h1.append (vals_pick h2 ix)
theorem da_get {c : Wc} {av : Addr → Prop} {H : Hp} : ∀ {zs : List V} {ws : List Dt} (i : Nat), DaAll c av H zs ws → (zs[i]? = none ∧ ws[i]? = none) ∨ ∃ z w, zs[i]? = some z ∧ ws[i]? = some w ∧ Da c av H z w
  | _, _, i, .nil => .inl ⟨by simp, by simp⟩
  | _, _, 0, .cons h _ => .inr ⟨_, _, by simp, by simp, h⟩
  | _, _, i + 1, .cons _ t => by
    rcases da_get i t with ⟨a, b⟩ | ⟨z, w, a, b, c⟩
    · exact .inl ⟨by simpa using a, by simpa using b⟩
    · exact .inr ⟨z, w, by simpa using a, by simpa using b, c⟩
theorem da_pick {c : Wc} {av : Addr → Prop} {H : Hp} {zs : List V} {ws : List Dt} (h : DaAll c av H zs ws) : ∀ ix : List Nat, DaAll c av H (ix.filterMap fun i => zs[i]?) (ix.filterMap fun i => ws[i]?)
  | [] => .nil
  | i :: ix => by
    rcases da_get i h with ⟨a, b⟩ | ⟨z, w, a, b, c⟩
    · rw [List.filterMap_cons, List.filterMap_cons, a, b]; exact da_pick h ix
    · rw [List.filterMap_cons, List.filterMap_cons, a, b]; exact .cons c (da_pick h ix)
end
end Pb
namespace Pb
open PySem PySem.Spec PyProof.Rows L2

section
variable {c : Fc} {ρ : Rt} {Γ : List Sl} {n n' : Cs} {σ : L2.St} {H H' : Hp}
/-- what is being made changes -/
theorem SS.turn (S : SS c ρ Γ n σ H) {p : Addr} (hp : p ∈ c.y.ap) (fr : Fr ρ.H0 p) (u : HO) (h1 : isT u = false := by rfl) (h2 : isC u = false := by rfl) : SS c ρ Γ n σ (upd H p u) where
  len := S.len
  gl := S.gl
  lay := S.lay.turn hp u h1 h2
  sx := ⟨S.sx.m, S.sx.ap, S.sx.nw, fun b o hb hm e t => by
    have hne : b ≠ p := fun z => fr.no (z ▸ e) t
    rw [upd_ne hne]
    exact S.sx.st b o hb hm e t⟩
  aps := S.aps
  ex := S.ex
  dat := fun i d h => by
    obtain ⟨v, h3, h4⟩ := S.dat i d h
    refine ⟨v, h3, h4.keep fun b o hb e _ => ?_⟩
    have hne : b ≠ p := fun z => hb (.inr (.inr (z ▸ hp)))
    rw [upd_ne hne]
    exact e
theorem da_turn {v : V} {d : Dt} {p : Addr} {u : HO} (hp : p ∈ c.y.ap) (h : Da c.toWc c.av H v d) : Da c.toWc c.av (upd H p u) v d := h.keep fun b o hb e _ => by
  have hne : b ≠ p := fun z => hb (.inr (.inr (z ▸ hp)))
  rw [upd_ne hne]
  exact e
theorem daa_turn {v : List V} {d : List Dt} {p : Addr} {u : HO} (hp : p ∈ c.y.ap) (h : DaAll c.toWc c.av H v d) : DaAll c.toWc c.av (upd H p u) v d := h.keep fun b o hb e _ => by
  have hne : b ≠ p := fun z => hb (.inr (.inr (z ▸ hp)))
  rw [upd_ne hne]
  exact e
theorem SS.fresh0 (S : SS c ρ Γ n σ H) {p : Addr} (hp : H p = none) : Fr ρ.H0 p := by
  refine S.sx.fr (fun z => S.lay.new hp (.inl z)) (fun z => S.lay.new hp (.inr (.inl (pre_mem S.sx.m z)))) (fr_none hp)
/-- a step is one of a smaller layout -/
theorem sx_unap {a : Addr} {y y' : Ly} {p : Addr} {u : HO} {H H' : Hp} (hp : H p = none) (x : Sx a ⟨y.m, p :: y.ap⟩ (upd H p u) ⟨y'.m, p :: y'.ap⟩ H') (hm : p ∉ y'.m) (hd : p ∉ y'.ap) (ha : p ≠ a) : Sx a y H y' H' where
  m := x.m
  ap := fun q h => (x.ap q (List.mem_cons_of_mem _ h)).elim (fun z => (List.mem_cons.mp z).elim (fun e => absurd (e ▸ h) hd) .inl) fun z => .inr fun o e => z o (same_new hp _ _ e)
  nw := fun q h => (x.nw q h).imp id fun z o e => z o (same_new hp _ _ e)
  st := fun b o hb hm e t => x.st b o hb hm (same_new hp _ _ e) t
end
/-! ### truth, keywords, texts -/
section
variable {c : Fc} {Γ : List Sl} {n : Cs} {k : Kd} {kt : Bool → Cs → Prop} {ta tb te to : TE}
theorem tru_at {m : Ly} {n1 : Cs} {H1 : Hp} {x : V} {d1 : Dt} {b : Bool} (L : Lay (c.toWc.at_ m) n1 H1) (h1 : Da (c.toWc.at_ m) (c.toWc.at_ m).av H1 x d1) (e : truD (dr n1.s d1) = some b) : TruV c.K x H1 b := truD_ok (c := c.toWc.at_ m) (L.view h1) e
theorem wt_tr (h : We c Γ n te fun d m => ∃ b, truD (dr m.s d) = some b ∧ kt b m) : Wt c Γ n (tTr c.K te) kt := by
  intro y ρ σ H S Q hQ
  refine h y ρ σ H S _ fun m x H1 d1 n1 S1 x1 h1 k1 => ?_
  obtain ⟨b, e, k1⟩ := k1
  exact ⟨b, tru_at S1.lay h1 e, hQ m b H1 n1 S1 x1 k1⟩
theorem w_andT (h : We c Γ n ta fun d m => ∃ b, truD (dr m.s d) = some b ∧ if b = true then We c Γ m tb k else k d m) : We c Γ n (tAndT c.K ta tb) k := by
  intro y ρ σ H S Q hQ
  refine h y ρ σ H S _ fun m x H1 d1 n1 S1 x1 h1 k1 => ?_
  obtain ⟨b, e, k1⟩ := k1
  refine ⟨b, tru_at S1.lay h1 e, ?_⟩
  cases b with
  | true => exact k1 ⟨m, y.ap⟩ ρ σ H1 S1 Q fun m2 v H2 d n2 S2 x2 h2 k2 => hQ m2 v H2 d n2 S2 (stp2 x1 x2 S2) h2 k2
  | false => exact hQ m _ H1 _ n1 S1 x1 h1 k1
theorem w_orT (h : We c Γ n ta fun d m => ∃ b, truD (dr m.s d) = some b ∧ if b = true then k d m else We c Γ m tb k) : We c Γ n (tOrT c.K ta tb) k := by
  intro y ρ σ H S Q hQ
  refine h y ρ σ H S _ fun m x H1 d1 n1 S1 x1 h1 k1 => ?_
  obtain ⟨b, e, k1⟩ := k1
  refine ⟨b, tru_at S1.lay h1 e, ?_⟩
  cases b with
  | false => exact k1 ⟨m, y.ap⟩ ρ σ H1 S1 Q fun m2 v H2 d n2 S2 x2 h2 k2 => hQ m2 v H2 d n2 S2 (stp2 x1 x2 S2) h2 k2
  | true => exact hQ m _ H1 _ n1 S1 x1 h1 k1
theorem w_notT (h : We c Γ n ta fun d m => ∃ b, truD (dr m.s d) = some b ∧ k (.bl (!b)) m) : We c Γ n (tNotT c.K ta) k := by
  intro y ρ σ H S Q hQ
  refine h y ρ σ H S _ fun m x H1 d1 n1 S1 x1 h1 k1 => ?_
  obtain ⟨b, e, k1⟩ := k1
  exact ⟨b, tru_at S1.lay h1 e, hQ m _ H1 _ n1 S1 x1 (.bl _) k1⟩
/-- a call with keywords -/
theorem w_ck {g : {α : Type} → List α → List α → List α} {a b : Nat} {r : List V → Hp → VK → Prop} {t tk : TA} (hg : ∀ {c : Wc} {av H vs ws ds es}, DaAll c av H vs ds → DaAll c av H ws es → DaAll c av H (g vs ws) (g ds es))
    (h : Wa c Γ n t fun ds n1 => Wa c Γ n1 tk fun es n2 => (ds.length = a ∧ es.length = b) ∧ RFD c r (g ds es) n2 k) : We c Γ n (tCK g a b r t tk) k := by
  intro y ρ σ H S Q hQ
  refine h y ρ σ H S _ fun m1 vs H1 ds n1 S1 x1 h1 k1 => ?_
  refine k1 _ ρ σ H1 S1 _ fun m2 ws H2 es n2 S2 x2 h2 k2 => ?_
  refine ⟨⟨h1.length.trans k2.1.1, h2.length.trans k2.1.2⟩, ?_⟩
  refine k2.2 ⟨m2, y.ap⟩ ρ H2 _ S2.lay S2.sx S2.aps S2.ex (hg (h1.sx x2) h2) Q fun m3 z H3 d n3 x3 L3 h3 k3 => ?_
  have S3 : SS (c.at_ ⟨m3, y.ap⟩) ρ Γ n3 σ H3 := S2.go x3 L3 fun _ z => z
  exact hQ m3 z H3 d n3 S3 (stp2 (stp2 x1 x2 S2) x3 S3) h3 k3
/-- a method of a text with one argument -/
theorem w_m1 {r : V → List V → Hp → VK → Prop} (h : We c Γ n to fun d n1 => ∃ z, d = .str z ∧ We c Γ n1 te fun e n2 => RPV c n2 (r (.str z)) [e] fun d => k d n2) : We c Γ n (tM1 r to te) k := by
  intro y ρ σ H S Q hQ
  refine h y ρ σ H S _ fun m1 x H1 d1 n1 S1 x1 h1 k1 => ?_
  obtain ⟨z, rfl, k1⟩ := k1
  cases h1
  refine ⟨⟨z, rfl⟩, ?_⟩
  refine k1 _ ρ σ H1 S1 _ fun m2 w H2 d2 n2 S2 x2 h2 k2 => ?_
  refine k2 ⟨m2, y.ap⟩ H2 _ S2.lay (.cons h2 .nil) Q fun z H3 d x3 h3 k3 => ?_
  exact hQ m2 z H3 d n2 (S2.same x3) (stp2 (stp2 x1 x2 S2) (Sx.same x3) (S2.same x3)) h3 k3
theorem wn_m1 {r : V → List V → Hp → VK → Prop} (h : We c Γ n to fun d n1 => ∃ z, d = .str z ∧ We c Γ n1 te fun e n2 => RPN c n2 (r (.str z)) [e] fun d => k d n2) : Wn c Γ n (tM1 r to te) k := by
  intro y ρ σ H S Q hQ
  refine h y ρ σ H S _ fun m1 x H1 d1 n1 S1 x1 h1 k1 => ?_
  obtain ⟨z, rfl, k1⟩ := k1
  cases h1
  refine ⟨⟨z, rfl⟩, ?_⟩
  refine k1 _ ρ σ H1 S1 _ fun m2 w H2 d2 n2 S2 x2 h2 k2 => ?_
  refine k2 ⟨m2, y.ap⟩ H2 _ S2.lay (.cons h2 .nil) Q fun p u ws d hp t1 t2 ow da k3 => ?_
  exact wn_mk (y := y) S2 (stp2 x1 x2 S2) hp t1 t2 ow da k3 hQ
theorem vp_joinL {z : Str} {e : Dt} {ys : List Str} {kd : Dt → Prop} (he : dr n.s e = .lst (ys.map Dt.str) ∨ dr n.s e = .tup (ys.map Dt.str)) (hz : (ys.map (·.length)).sum + ys.length * z.length ≤ 16777216) (h : kd (.str (Txt.join z ys))) : RPV c n (rJoin c.K (.str z)) [e] kd := by
  intro y H vs L h1 Q q
  cases h1 with
  | cons h1 h2 =>
    cases h2
    have v1 := L.dv h1
    rcases he with e | e <;> rw [e] at v1
    · obtain ⟨p, vs, rfl, h3, h4⟩ := v1.isL
      have w := h4.strs
      subst w
      exact ⟨z, _, ys, rfl, rfl, .inl (SqL.of h3), hz, q _ H _ (Same.refl H) (.str _) h⟩
    · obtain ⟨p, vs, rfl, h3, h4⟩ := v1.isT
      have w := h4.strs
      subst w
      exact ⟨z, _, ys, rfl, rfl, .inr h3.sq, hz, q _ H _ (Same.refl H) (.str _) h⟩
theorem vp_split {z b : Str} {kd : Dt → Prop} (hb : (b.length == 0) = false) (hz : szOk (z.length + 2) = true) (h : kd (.lst ((Txt.split z b).map Dt.str))) : RPN c n (rSplit (.str z)) [.str b] kd := by
  intro y H vs L h1 Q q
  cases h1 with
  | cons h1 h2 =>
    cases h2
    cases h1
    exact ⟨z, b, rfl, rfl, hb, szl hz, fun p hp => q p _ _ (.lst _) hp rfl rfl rfl (DaAll.ofStrs _) h⟩
/-- xs[::-1] -/
theorem wn_rev (h : We c Γ n te fun d m => ∃ ds, dr m.s d = .lst ds ∧ k (.lst ds.reverse) m) : Wn c Γ n (tRev c.K te) k := by
  intro y ρ σ H S Q hQ
  refine h y ρ σ H S _ fun m1 x H1 d1 n1 S1 x1 h1 k1 => ?_
  obtain ⟨ds, e, k1⟩ := k1
  have v1 := S1.lay.dv h1
  rw [e] at v1
  obtain ⟨p, vs, rfl, h3, h4⟩ := v1.isL
  exact .inl ⟨_, _, rfl, SqL.of h3, fun p hp => wn_mk (y := y) (d := .lst ds.reverse) S1 x1 hp rfl rfl rfl h4.reverse k1 hQ⟩
theorem w_revT (h : We c Γ n te fun d m => ∃ ds, dr m.s d = .tup ds ∧ k (.tup ds.reverse) m) : We c Γ n (tRev c.K te) k := by
  intro y ρ σ H S Q hQ
  refine h y ρ σ H S _ fun m1 x H1 d1 n1 S1 x1 h1 k1 => ?_
  obtain ⟨ds, e, k1⟩ := k1
  have v1 := S1.lay.dv h1
  rw [e] at v1
  obtain ⟨p, vs, rfl, h3, h4⟩ := v1.isT
  refine .inr ⟨_, _, rfl, h3.sq, fun p hp => ?_⟩
  have sm := same_new (o := .tup vs.reverse) hp
  exact hQ m1 _ _ _ n1 (S1.same sm) (stp2 x1 (Sx.same sm) (S1.same sm)) (Da.newT S1.lay.live hp h4.reverse) k1
end
/-! ### a dict written out -/
def Wp (c : Fc) (Γ : List Sl) (n : Cs) (trs : List (TE × TE)) (k : List Key → List Dt → Cs → Prop) : Prop := ∀ y ρ σ H, SS (c.at_ y) ρ Γ n σ H → ∀ Q : List (V × V) → Hp → Prop,
  (∀ m (kvs : List (Key × V)) H' ks ds n', SS (c.at_ ⟨m, y.ap⟩) ρ Γ n' σ H' → Sx c.a y H ⟨m, y.ap⟩ H' → kvs.map (·.1) = ks → DaAll (c.toWc.at_ ⟨m, y.ap⟩) (c.toWc.at_ ⟨m, y.ap⟩).av H' (kvs.map (·.2)) ds → k ks ds n' → Q (kvs.map fun kv => (kV kv.1, kv.2)) H') → tPairs trs σ H Q
section
variable {c : Fc} {Γ : List Sl} {n : Cs} {k : Kd} {kp : List Key → List Dt → Cs → Prop} {tk tv : TE} {trs : List (TE × TE)}
theorem wp_nil (h : kp [] [] n) : Wp c Γ n [] kp := fun y ρ σ H S Q q => q y.m [] H [] [] n S Sx.refl rfl .nil h
theorem wp_cons (h : We c Γ n tk fun d n1 => ∃ key, keyD d = some key ∧ We c Γ n1 tv fun e n2 => Wp c Γ n2 trs fun ks ds m => kp (key :: ks) (e :: ds) m) : Wp c Γ n ((tk, tv) :: trs) kp := by
  intro y ρ σ H S Q q
  refine h y ρ σ H S _ fun m1 x H1 d n1 S1 x1 h1 k1 => ?_
  obtain ⟨key, hk, k1⟩ := k1
  refine k1 _ ρ σ H1 S1 _ fun m2 z H2 e n2 S2 x2 h2 k2 => ?_
  refine k2 _ ρ σ H2 S2 _ fun m3 kvs H3 ks ds m S3 x3 e3 h3 k3 => ?_
  have ex : x = kV key := by
    cases h1 <;> cases hk <;> rfl
  rw [ex]
  exact q m3 ((key, z) :: kvs) H3 (key :: ks) (e :: ds) m S3 (stp2 (stp2 x1 x2 S2) x3 S3) (by rw [List.map_cons, e3]) (.cons (h2.sx x3) h3) k3
theorem Wp.mono {k' : List Key → List Dt → Cs → Prop} (h : Wp c Γ n trs kp) (hk : ∀ ks d m, kp ks d m → k' ks d m) : Wp c Γ n trs k' := fun y ρ σ H S Q q => h y ρ σ H S Q fun m kvs H' ks ds n' S' x e da kk => q m kvs H' ks ds n' S' x e da (hk _ _ _ kk)
theorem wn_disp (h : Wp c Γ n trs fun ks ds m => ks.Nodup ∧ ks.length ≤ 15 ∧ k (.dic ks ds) m) : Wn c Γ n (tDisp trs) k := by
  intro y ρ σ H S Q q p hp
  have np := S.lay.new hp
  refine h ⟨y.m, p :: y.ap⟩ ρ σ _ (S.apart hp (.dK [])) _ fun m2 kvs H2 ks ds m S2 x2 ek hd kk => ?_
  have h2p : H2 p = some (.dK []) := x2.st p _ (fun z => np (.inl z)) (fun z => np (.inr (.inl z))) upd_same rfl
  refine ⟨h2p, kvs, rfl, by rw [← ek, List.length_map] at kk; exact kk.2.1, ?_⟩
  rw [merge_app kvs [] (by rw [List.nil_append, ek]; exact kk.1), List.nil_append]
  have mem : p ∈ (c.at_ ⟨m2, p :: y.ap⟩).y.ap := List.mem_cons_self
  have nm : p ∉ m2 := S2.lay.dj p mem
  have nap : p ∉ y.ap := fun z => np (.inr (.inr z))
  have x3 : Sx c.a y H ⟨m2, y.ap⟩ H2 := sx_unap (u := .dK []) hp x2 nm nap (fun z => np (.inl z))
  have x4 : Sx c.a y H ⟨m2, y.ap⟩ (upd H2 p (.dK kvs)) := ⟨x3.m, x3.ap, x3.nw, fun b o hb hm e t => by
    have hne : b ≠ p := ne_of_none e hp
    rw [upd_ne hne]
    exact x3.st b o hb hm e t⟩
  exact q m2 p (kvs.map (·.2)) _ (.dic ks ds) m (S2.turn mem (S.fresh0 hp) (.dK kvs)) nap x4 (fr_none hp) ⟨_, upd_same, rfl, rfl, kvs, rfl, ek, rfl⟩ (daa_turn mem hd) kk.2.2
end
end Pb
namespace Pb
open PySem PySem.Spec PyProof.Rows L2

/-! ### what is walked -/
/-- a list, a tuple or a text, by its value -/
def iSq (K : PySem.W.Frag) (te : TE) : TI := fun σ H R => te σ H fun v H1 =>
  (∃ a, v = .ref a ∧ (∃ xs, SqL K H1 a xs) ∧ R (Itl K a) H1) ∨ (∃ a, v = .ref a ∧ (∃ xs, SqT K H1 a xs) ∧ R (Itt K a) H1) ∨ ∃ x, v = .str x ∧ R (Its x) H1
theorem pi_sq {X : Cx} {tg l : Expr} {te : TE} (hl : PE X l te) : PI X tg l (iSq X.K te) := by
  constructor
  intro pins s σ H R I h
  refine thn (hl.run pins s σ H _ I h) ?_
  rintro v s1 ⟨y, H1, I1, r1, q⟩
  rcases q with ⟨a, rfl, ⟨xs, hq⟩, q⟩ | ⟨a, rfl, ⟨xs, hq⟩, q⟩ | ⟨x, rfl, q⟩
  · cases r1
    obtain ⟨its, rv, p, hz⟩ := I1.list hq
    refine wpAny_pyIter_list p.isList ?_
    exact pi_one (tk := s1.toks) I1 _ (turn_list a _) ⟨_, Heap.get?_push_size _ rfl, rfl, rfl⟩ q
  · cases r1
    obtain ⟨its, rv, p, hz⟩ := I1.tuple hq
    refine wpAny_pyIter_tuple (show s1.heap.IsTuple a its.toArray from p) ?_
    exact pi_one (tk := s1.toks) I1 _ (turn_tuple a _) ⟨_, Heap.get?_push_size _ rfl, rfl, rfl⟩ q
  · obtain ⟨t, rfl⟩ := r1
    cases ha : x.cps.all (· < 128)
    · exact wpAny_pyIter_wide ha (pi_one (tk := s1.toks) I1 _ (turn_str _ x t "str_iterator" (.inr rfl)) ⟨_, Heap.get?_push_size _ rfl, rfl, rfl⟩ q)
    · exact wpAny_pyIter_ascii ha (pi_one (tk := s1.toks) I1 _ (turn_str _ x t "str_ascii_iterator" (.inl rfl)) ⟨_, Heap.get?_push_size _ rfl, rfl, rfl⟩ q)
/-- the signs of a text -/
def signs (z : Str) : List Dt := z.cps.toList.map fun s => .str ⟨#[s]⟩
/-- lo, lo + 1, .. (m of them) -/
def upTo (lo : Int) (m : Nat) : List Dt := (List.range m).map fun i => .int (lo + (i : Nat))
theorem upTo_length (lo : Int) (m : Nat) : (upTo lo m).length = m := by
  unfold upTo
  rw [List.length_map, List.length_range]
theorem upTo_get {lo : Int} {m i : Nat} (h : i < m) : (upTo lo m)[i]? = some (.int (lo + (i : Nat))) := by
  unfold upTo
  rw [List.getElem?_map, List.getElem?_range h]
  rfl
/-- σ' is σ but at the places js -/
def But (js : List Nat) (σ σ' : L2.St) : Prop := σ'.length = σ.length ∧ ∀ i : Nat, i ∉ js → σ'[i]? = σ[i]?
/-- the cell that is walked stays as it was -/
def chk : Option (Nat × Dt) → List Dt → Prop
  | none, _ => True
  | some (i, d), s => s[i]? = some d
/-- an iterator, begun at H1, that gives the data ds one by one while its source stays -/
structure ItD (c : Wc) (y1 : Ly) (H1 : Hp) (src : Option (Nat × Dt)) (J : It) (ds : List Dt) : Prop where
  goes : ∀ i y n H, i < ds.length → Sx c.a y1 H1 y H → Lay (c.at_ y) n H → chk src n.s → J.go i H
  stops : ∀ y n H, Sx c.a y1 H1 y H → Lay (c.at_ y) n H → chk src n.s → J.stop ds.length H
  yields : ∀ i y n H x H', i < ds.length → Sx c.a y1 H1 y H → Lay (c.at_ y) n H → chk src n.s → J.yld i H x H' → Same H H' ∧ ∃ d, ds[i]? = some d ∧ Da (c.at_ y) (c.at_ y).av H' x d
section
variable {c : Wc} {y1 : Ly} {n1 : Cs} {H : Hp}
theorem itd_list {p : Addr} {vs : List V} {ds : List Dt} (h1 : ¬ (c.at_ y1).av p) (h2 : H p = some (.lst vs)) (h3 : DaAll (c.at_ y1) (c.at_ y1).av H vs ds) : ItD c y1 H none (Itl c.K p) ds where
  goes := fun i y n H' hi x L _ => by
    rw [← h3.length] at hi
    exact ⟨vs, vs[i], SqL.of (x.st p _ (fun z => h1 (.inl z)) (fun z => h1 (.inr (.inl z))) h2 rfl), by simp [hi]⟩
  stops := fun y n H' x L _ => ⟨vs, SqL.of (x.st p _ (fun z => h1 (.inl z)) (fun z => h1 (.inr (.inl z))) h2 rfl), by rw [h3.length]; exact Nat.le_refl _⟩
  yields := fun i y n H' v H'' hi x L _ yl => by
    obtain ⟨e, yl⟩ := yl
    subst e
    have h4 : DaAll (c.at_ y) (c.at_ y).av H'' vs ds := DaAll.sx (c := c.at_ y1) h3 x
    obtain ⟨d, q1, q2⟩ := h4.get2 (yl vs (SqL.of (x.st p _ (fun z => h1 (.inl z)) (fun z => h1 (.inr (.inl z))) h2 rfl)))
    exact ⟨Same.refl _, d, q1, q2⟩
theorem itd_cell {i0 : Nat} {p : Addr} {vs : List V} {ds : List Dt} (hp : y1.m[i0]? = some p) (h3 : DaAll (c.at_ y1) (c.at_ y1).av H vs ds) : ItD c y1 H (some (i0, .lst ds)) (Itl c.K p) ds where
  goes := fun i y n H' hi x L hc => by
    obtain ⟨ws, h5, h6⟩ := L.cel i0 _ p hc (pre_get x.m hp)
    have h6 : DaAll (c.at_ y) (c.at_ y).av H' ws ds := h6
    rw [← h6.length] at hi
    exact ⟨ws, ws[i], SqL.of h5.isL, by simp [hi]⟩
  stops := fun y n H' x L hc => by
    obtain ⟨ws, h5, h6⟩ := L.cel i0 _ p hc (pre_get x.m hp)
    have h6 : DaAll (c.at_ y) (c.at_ y).av H' ws ds := h6
    exact ⟨ws, SqL.of h5.isL, by rw [h6.length]; exact Nat.le_refl _⟩
  yields := fun i y n H' v H'' hi x L hc yl => by
    obtain ⟨e, yl⟩ := yl
    subst e
    obtain ⟨ws, h5, h6⟩ := L.cel i0 _ p hc (pre_get x.m hp)
    have h6 : DaAll (c.at_ y) (c.at_ y).av H'' ws ds := h6
    obtain ⟨d, q1, q2⟩ := h6.get2 (yl ws (SqL.of h5.isL))
    exact ⟨Same.refl _, d, q1, q2⟩
theorem TupAt.sx {p : Addr} {vs : List V} {y : Ly} {H' : Hp} (h : TupAt c.K (c.at_ y1).av H p vs) (x : Sx c.a y1 H y H') : SqT c.K H' p vs := by
  rcases h with ⟨h1, h2 | ⟨o, h2⟩⟩ | h
  · exact .inl (.inl (x.st p _ (fun z => h1 (.inl z)) (fun z => h1 (.inr (.inl z))) h2 rfl))
  · exact .inl (.inr ⟨o, x.st p _ (fun z => h1 (.inl z)) (fun z => h1 (.inr (.inl z))) h2 rfl⟩)
  · exact .inr h
theorem itd_tup {p : Addr} {vs : List V} {ds : List Dt} (h2 : TupAt c.K (c.at_ y1).av H p vs) (h3 : DaAll (c.at_ y1) (c.at_ y1).av H vs ds) : ItD c y1 H none (Itt c.K p) ds where
  goes := fun i y n H' hi x L _ => by
    rw [← h3.length] at hi
    exact ⟨vs, vs[i], h2.sx x, by simp [hi]⟩
  stops := fun y n H' x L _ => ⟨vs, h2.sx x, by rw [h3.length]; exact Nat.le_refl _⟩
  yields := fun i y n H' v H'' hi x L _ yl => by
    obtain ⟨e, yl⟩ := yl
    subst e
    have h4 : DaAll (c.at_ y) (c.at_ y).av H'' vs ds := DaAll.sx (c := c.at_ y1) h3 x
    obtain ⟨d, q1, q2⟩ := h4.get2 (yl vs (h2.sx x))
    exact ⟨Same.refl _, d, q1, q2⟩
theorem itd_str {z : Str} : ItD c y1 H none (Its z) (signs z) where
  goes := fun i y n H' hi x L _ => by
    unfold signs at hi
    rw [List.length_map, Array.length_toList] at hi
    exact hi
  stops := fun y n H' x L _ => by
    show z.cps.size ≤ (signs z).length
    unfold signs
    rw [List.length_map, Array.length_toList]
    exact Nat.le_refl _
  yields := fun i y n H' v H'' hi x L _ yl => by
    obtain ⟨e, s, hs, ex⟩ := yl
    subst e ex
    refine ⟨Same.refl _, .str ⟨#[s]⟩, ?_, .str _⟩
    unfold signs
    rw [List.getElem?_map, Array.getElem?_toList, hs]
    rfl
theorem itd_rng {lo : Int} {m : Nat} : ItD c y1 H none (Itr lo m) (upTo lo m) where
  goes := fun i y n H' hi x L _ => by
    rw [upTo_length] at hi
    exact hi
  stops := fun y n H' x L _ => by
    show m ≤ (upTo lo m).length
    rw [upTo_length]
    exact Nat.le_refl _
  yields := fun i y n H' v H'' hi x L _ yl => by
    obtain ⟨e, ex⟩ := yl
    subst e ex
    rw [upTo_length] at hi
    exact ⟨Same.refl _, _, upTo_get hi, .int _⟩
end
def Wi (c : Fc) (Γ : List Sl) (n : Cs) (wi : TI) (k : List Dt → Option (Nat × Dt) → Cs → Prop) : Prop := ∀ y ρ σ H, SS (c.at_ y) ρ Γ n σ H → ∀ R : It → Hp → Prop,
  (∀ m J H' ds src n', SS (c.at_ ⟨m, y.ap⟩) ρ Γ n' σ H' → Sx c.a y H ⟨m, y.ap⟩ H' → ItD c.toWc ⟨m, y.ap⟩ H' src J ds → chk src n'.s → k ds src n' → R J H') → wi σ H R
/-- what is walked: its items, and the cell that must stay -/
def seqS (s : List Dt) : Dt → Option (List Dt × Option (Nat × Dt))
  | .lst ds => some (ds, none)
  | .tup ds => some (ds, none)
  | .str z => some (signs z, none)
  | .rf i => match s[i]? with
    | some (.lst ds) => some (ds, some (i, .lst ds))
    | _ => none
  | _ => none
section
variable {c : Fc} {Γ : List Sl} {n : Cs} {k : List Dt → Option (Nat × Dt) → Cs → Prop} {te : TE} {ta : TA} {wi : TI}
theorem Wi.mono {k' : List Dt → Option (Nat × Dt) → Cs → Prop} (h : Wi c Γ n wi k) (hk : ∀ ds src m, k ds src m → k' ds src m) : Wi c Γ n wi k' := fun y ρ σ H S R q => h y ρ σ H S R fun m J H' ds src n' S' x it ch kk => q m J H' ds src n' S' x it ch (hk _ _ _ kk)
theorem wi_sq (h : We c Γ n te fun d m => ∃ ds src, seqS m.s d = some (ds, src) ∧ k ds src m) : Wi c Γ n (iSq c.K te) k := by
  intro y ρ σ H S R q
  refine h y ρ σ H S _ fun m v H' d n' S' x h' kk => ?_
  obtain ⟨ds, src, e, kk⟩ := kk
  cases h' with
  | lst h1 h2 h3 =>
    cases e
    exact .inl ⟨_, rfl, ⟨_, SqL.of h2⟩, q m _ H' _ none n' S' x (itd_list h1 h2 h3) trivial kk⟩
  | tup h2 h3 =>
    cases e
    exact .inr (.inl ⟨_, rfl, ⟨_, h2.sq⟩, q m _ H' _ none n' S' x (itd_tup h2 h3) trivial kk⟩)
  | str z =>
    cases e
    exact .inr (.inr ⟨_, rfl, q m _ H' _ none n' S' x itd_str trivial kk⟩)
  | @rf i p h1 =>
    have e' : (match n'.s[i]? with | some (.lst ds) => some (ds, some (i, .lst ds)) | _ => none) = some (ds, src) := e
    split at e'
    · rename_i es he
      cases e'
      obtain ⟨vs, h5, h6⟩ := S'.lay.cel i _ p he h1
      exact .inl ⟨_, rfl, ⟨_, SqL.of h5.isL⟩, q m _ H' _ _ n' S' x (itd_cell h1 h6) he kk⟩
    · cases e'
  | _ => cases e
theorem wi_rng1 (h : Wa c Γ n ta fun ds m => ∃ j : Int, ds = [.int j] ∧ (-(2 ^ 62) ≤ j ∧ j < 2 ^ 62) ∧ k (upTo 0 j.toNat) none m) : Wi c Γ n (iRng1 ta) k := by
  intro y ρ σ H S R q
  refine h y ρ σ H S _ fun m vs H' ds n' S' x h' kk => ?_
  obtain ⟨j, rfl, hj, kk⟩ := kk
  cases h' with
  | cons a b =>
    cases a; cases b
    exact ⟨j, rfl, hj.1, hj.2, q m _ H' _ none n' S' x itd_rng trivial kk⟩
theorem wi_rng2 (h : Wa c Γ n ta fun ds m => ∃ i j : Int, ds = [.int i, .int j] ∧ (-(2 ^ 62) ≤ i ∧ i < 2 ^ 62 ∧ -(2 ^ 62) ≤ j ∧ j < 2 ^ 62) ∧ k (upTo i (j - i).toNat) none m) : Wi c Γ n (iRng2 ta) k := by
  intro y ρ σ H S R q
  refine h y ρ σ H S _ fun m vs H' ds n' S' x h' kk => ?_
  obtain ⟨i, j, rfl, hj, kk⟩ := kk
  cases h' with
  | cons a b =>
    cases b with
    | cons b' bb =>
      cases a; cases b'; cases bb
      exact ⟨i, j, rfl, hj, q m _ H' _ none n' S' x itd_rng trivial kk⟩
end
/-! ### targets -/
def Wg (c : Fc) (Γ : List Sl) (n : Cs) (js : List Nat) (g : TG) (d : Dt) (k : List Sl → Cs → Prop) : Prop := ∀ y ρ σ H v, SS (c.at_ y) ρ Γ n σ H → Da (c.toWc.at_ y) (c.toWc.at_ y).av H v d → ∀ Q : L2.St → Hp → Prop,
  (∀ Γ' σ', SS (c.at_ y) ρ Γ' n σ' H → But js σ σ' → k Γ' n → Q σ' H) → g v σ H Q
def Wgs (c : Fc) (Γ : List Sl) (n : Cs) (js : List Nat) (g : TGs) (ds : List Dt) (k : List Sl → Cs → Prop) : Prop := ∀ y ρ σ H vs, SS (c.at_ y) ρ Γ n σ H → DaAll (c.toWc.at_ y) (c.toWc.at_ y).av H vs ds → ∀ Q : L2.St → Hp → Prop,
  (∀ Γ' σ', SS (c.at_ y) ρ Γ' n σ' H → But js σ σ' → k Γ' n → Q σ' H) → g vs σ H Q
section
variable {c : Fc} {Γ : List Sl} {n : Cs} {i : Nat} {js ks : List Nat} {d : Dt} {ds : List Dt} {k : List Sl → Cs → Prop} {g : TG} {gs : TGs} {te : TE} {N : Nd}
theorem But.set {σ : L2.St} {v : Option V} : But [i] σ (σ.set i v) := ⟨List.length_set, fun j hj => List.getElem?_set_ne (fun e => hj (by simp [e]))⟩
theorem But.refl {σ : L2.St} : But js σ σ := ⟨rfl, fun _ _ => rfl⟩
theorem But.trans {σ σ1 σ2 : L2.St} (a : But js σ σ1) (b : But ks σ1 σ2) : But (js ++ ks) σ σ2 := ⟨b.1.trans a.1, fun i hi => (b.2 i fun z => hi (List.mem_append_right _ z)).trans (a.2 i fun z => hi (List.mem_append_left _ z))⟩
theorem Wg.mono {k' : List Sl → Cs → Prop} (h : Wg c Γ n js g d k) (hk : ∀ d m, k d m → k' d m) : Wg c Γ n js g d k' := fun y ρ σ H v S da Q q => h y ρ σ H v S da Q fun Γ' σ' S' b kk => q Γ' σ' S' b (hk _ _ kk)
theorem wg_name (h : k (Γ.set i (.da d)) n) : Wg c Γ n [i] (gName i) d k := fun y ρ σ H v S da Q q => q _ _ (S.set i da) But.set h
theorem wgs_nil (h : k Γ n) : Wgs c Γ n [] gNil [] k := fun y ρ σ H vs S da Q q => by
  cases da
  exact ⟨rfl, q Γ σ S But.refl h⟩
theorem wgs_cons (h : Wg c Γ n js g d fun Γ' n' => Wgs c Γ' n' ks gs ds k) : Wgs c Γ n (js ++ ks) (gCons g gs) (d :: ds) k := fun y ρ σ H vs S da Q q => by
  cases da with
  | cons h1 h2 =>
    refine ⟨_, _, rfl, h y ρ σ H _ S h1 _ fun Γ' σ' S' b k' => ?_⟩
    exact k' y ρ σ' H _ S' h2 _ fun Γ2 σ2 S2 b2 k2 => q Γ2 σ2 S2 (b.trans b2) k2
theorem wg_tup {m : Nat} (hm : ds.length = m) (h : Wgs c Γ n js gs ds k) : Wg c Γ n js (gTup c.K m gs) (.tup ds) k := fun y ρ σ H v S da Q q => by
  cases da with
  | tup h2 h3 => exact ⟨_, _, rfl, h2.sq, by rw [h3.length]; exact hm, h y ρ σ H _ S h3 Q q⟩
/-- a, b = .. -/
theorem w_asgG (h : We c Γ n te fun d n' => Wg c Γ n' js g d N.nx) : Ws c Γ n (tAsg te g) N := by
  intro y ρ σ H S D L
  refine h y ρ σ H S _ fun m v H' d n' S' x h' k' => ?_
  exact k' _ ρ σ H' v S' h' _ fun Γ' σ' S2 _ q => L.nx _ _ n' _ H' S2 q
theorem w_par {i j : Nat} {ta : TA} (h : Wa c Γ n ta fun ds n' => ∃ d e, ds = [d, e] ∧ N.nx ((Γ.set i (.da d)).set j (.da e)) n') : Ws c Γ n (tPar i j ta) N := by
  intro y ρ σ H S D L
  refine h y ρ σ H S _ fun m vs H' ds n' S' x h' k' => ?_
  obtain ⟨d, e, rfl, k'⟩ := k'
  cases h' with
  | cons a b =>
    cases b with
    | cons b bb =>
      cases bb
      exact ⟨_, _, rfl, L.nx _ _ n' _ H' ((S'.set i a).set j b) k'⟩
end
/-! ### loops -/
section
variable {c : Fc} {ρ : Rt} {Γ Γ' : List Sl} {n n' : Cs} {σ σ' : L2.St} {y y' : Ly} {H H' : Hp}
theorem sx_ap {a : Addr} {y y' : Ly} {ap : List Addr} {H H' : Hp} (x : Sx a y H y' H') : Sx a ⟨y.m, ap⟩ H ⟨y'.m, ap⟩ H' := ⟨x.m, fun _ h => .inl h, x.nw, x.st⟩
/-- an end, seen from further out -/
theorem Out.leave (S : SS (c.at_ y) ρ Γ n σ H) {m : List Addr} (o : Out c ⟨H, y, ρ.ln⟩ m n' H') : Out c ρ m n' H' := by
  refine ⟨?_, Lay.drop (c := c.toWc.at_ ⟨m, y.ap⟩) o.lay S.aps⟩
  have t := S.sx.trans o.sx o.lay.na o.lay.dj
  exact ⟨t.m, fun _ h => .inl h, t.nw, t.st⟩
theorem Exk.leave (S : SS (c.at_ y) ρ Γ n σ H) : Exk c ⟨H, y, ρ.ln⟩ := by
  intro cn C x m H' fs es n' h1 h2 h3 h4 h5 h6 h7 h8
  have o := Out.leave S (c := c) (m := m) (n' := n') (H' := H') ⟨h2, h3⟩
  refine S.ex cn C x m H' fs es n' h1 o.sx o.lay (fun z => h4 ?_) h5 h6 (DaAll.drop' (c := c.toWc.at_ ⟨m, y.ap⟩) h7 S.aps) h8
  exact z.imp id fun z => z.imp id (S.aps x)
theorem SS.enter (S : SS (c.at_ y) ρ Γ n σ H) : SS (c.at_ y) ⟨H, y, ρ.ln⟩ Γ n σ H where
  len := S.len
  gl := S.gl
  lay := S.lay
  sx := Sx.refl
  aps := fun _ h => h
  ex := Exk.leave S
  dat := S.dat
theorem SS.leave (S : SS (c.at_ y) ρ Γ n σ H) (S' : SS (c.at_ y') ⟨H, y, ρ.ln⟩ Γ' n' σ' H') : SS (c.at_ y') ρ Γ' n' σ' H' where
  len := S'.len
  gl := S'.gl
  lay := S'.lay
  sx := S.sx.trans S'.sx S'.lay.na S'.lay.dj
  aps := fun p h => S'.aps p (S.aps p h)
  ex := S.ex
  dat := S'.dat
end
/-- THE RULE for a for: I by the turn -/
theorem w_for {c : Fc} {Γ : List Sl} {n : Cs} {wi : TI} {js : List Nat} {g : TG} {tb : TS} {N : Nd}
    (h : Wi c Γ n wi fun ds src n1 => ∃ I : Nat → List Sl → Cs → Prop, I 0 Γ n1 ∧ (∀ i Γ' m, Γ'.length = Γ.length → I i Γ' m → chk src m.s) ∧
      (∀ i Γ' m d, ds[i]? = some d → Γ'.length = Γ.length → I i Γ' m → Wg c Γ' m js g d fun Γ2 m2 => Ws c Γ2 m2 tb { nx := I (i + 1), ct := I (i + 1), rt := N.rt, bk := N.nx }) ∧
      (∀ Γ' m, Γ'.length = Γ.length → I ds.length Γ' m → N.nx Γ' m)) : Ws c Γ n (tFor wi g tb) N := by
  intro y ρ σ H S D L
  refine h y ρ σ H S _ fun m1 J H1 ds src n1 S1 x1 it ch hk => ?_
  obtain ⟨I, i0, hch, turn, done⟩ := hk
  refine ⟨fun i m σ' H' => m = ds.length - i ∧ i ≤ ds.length ∧ ∃ y' Γ' n', SS (c.at_ y') ⟨H1, ⟨m1, y.ap⟩, ρ.ln⟩ Γ' n' σ' H' ∧ I i Γ' n', ⟨ds.length, by simp, Nat.zero_le _, _, _, n1, S1.enter, i0⟩, ?_⟩
  rintro i m σ' H' ⟨rfl, hi, y', Γ', n', S', ii⟩
  have ln : Γ'.length = Γ.length := S'.gl.trans S.gl.symm
  have cc := hch i Γ' n' ln ii
  by_cases hlt : i < ds.length
  · refine .inr ⟨it.goes i y' n' H' hlt S'.sx S'.lay cc, fun σ2 H2 => ∃ y2 Γ2 n2, SS (c.at_ y2) ⟨H1, ⟨m1, y.ap⟩, ρ.ln⟩ Γ2 n2 σ2 H2 ∧ I (i + 1) Γ2 n2, fun σ2 H2 q => ⟨ds.length - (i + 1), by omega, rfl, hlt, q⟩, ?_⟩
    intro x H2 yl
    obtain ⟨sm, d, hd, da⟩ := it.yields i y' n' H' x H2 hlt S'.sx S'.lay cc yl
    refine turn i Γ' n' d hd ln ii y' _ σ' H2 x (S'.same sm) da _ fun Γ2 σ2 S3 bt ws => ?_
    refine ws y' _ σ2 H2 S3 _ ⟨fun y3 Γ3 n3 σ3 H3 S4 q => ⟨y3, Γ3, n3, S4, q⟩, fun m3 v H3 d3 n3 o da3 q => ?_, fun y3 Γ3 n3 σ3 H3 S4 q => L.nx _ _ n3 σ3 H3 (S1.leave S4) q, fun y3 Γ3 n3 σ3 H3 S4 q => ⟨y3, Γ3, n3, S4, q⟩⟩
    exact L.rt m3 v H3 d3 n3 (Out.leave S1 o) (Da.drop (c := c.toWc.at_ ⟨m3, y.ap⟩) da3 S.aps) q
  · have e : i = ds.length := by omega
    subst e
    exact .inl ⟨it.stops y' n' H' S'.sx S'.lay cc, L.nx _ _ n' σ' H' (S1.leave S') (done Γ' n' ln ii)⟩
/-- THE RULE for a while: I by a number that falls -/
theorem w_while {c : Fc} {Γ : List Sl} {n : Cs} {tc : TT} {tb : TS} {N : Nd} (I : Nat → List Sl → Cs → Prop) (h0 : ∃ m, I m Γ n)
    (hs : ∀ m Γ' n', Γ'.length = Γ.length → I m Γ' n' → Wt c Γ' n' tc fun b n2 => if b = true then Ws c Γ' n2 tb { nx := fun Γ2 n3 => ∃ m', m' < m ∧ I m' Γ2 n3, ct := fun Γ2 n3 => ∃ m', m' < m ∧ I m' Γ2 n3, rt := N.rt, bk := N.nx } else N.nx Γ' n2) :
    Ws c Γ n (tWhile tc tb) N := by
  intro y ρ σ H S D L
  obtain ⟨m0, i0⟩ := h0
  refine ⟨fun m σ' H' => ∃ y' Γ' n', SS (c.at_ y') ρ Γ' n' σ' H' ∧ I m Γ' n', ⟨m0, y, Γ, n, S, i0⟩, ?_⟩
  rintro m σ' H' ⟨y', Γ', n', S', ii⟩
  refine hs m Γ' n' (S'.gl.trans S.gl.symm) ii y' ρ σ' H' S' _ fun m2 b H2 n2 S2 x2 q => ?_
  cases b with
  | false => exact L.nx _ Γ' n2 σ' H2 S2 q
  | true =>
    refine ⟨fun σ3 H3 => ∃ m', m' < m ∧ ∃ y3 Γ3 n3, SS (c.at_ y3) ρ Γ3 n3 σ3 H3 ∧ I m' Γ3 n3, fun σ3 H3 z => z, ?_⟩
    refine q _ ρ σ' H2 S2 _ ⟨fun y3 Γ3 n3 σ3 H3 S4 z => ?_, L.rt, L.nx, fun y3 Γ3 n3 σ3 H3 S4 z => ?_⟩
    · obtain ⟨m', hm, z⟩ := z
      exact ⟨m', hm, y3, Γ3, n3, S4, z⟩
    · obtain ⟨m', hm, z⟩ := z
      exact ⟨m', hm, y3, Γ3, n3, S4, z⟩
/-! ### comprehensions -/
theorem wipe_in {σ : L2.St} {i : Nat} : ∀ {vs : List Nat}, i ∈ vs → i < σ.length → (wipe σ vs)[i]? = some none
  | v :: vs, h, hl => by
    unfold wipe
    by_cases e : v = i
    · subst e
      exact List.getElem?_set_self (by rw [wipe_length]; exact hl)
    · rw [List.getElem?_set_ne e]
      rcases List.mem_cons.mp h with z | z
      · exact absurd z.symm e
      · exact wipe_in z hl
theorem wipe_eq {σ τ : L2.St} {vs : List Nat} (hl : σ.length = τ.length) (h : ∀ i : Nat, i ∉ vs → σ[i]? = τ[i]?) : wipe σ vs = wipe τ vs := by
  apply List.ext_getElem?
  intro i
  by_cases hi : i ∈ vs
  · by_cases hz : i < σ.length
    · rw [wipe_in hi hz, wipe_in hi (hl ▸ hz)]
    · rw [List.getElem?_eq_none (by rw [wipe_length]; omega), List.getElem?_eq_none (by rw [wipe_length]; omega)]
  · rw [wipe_out hi, wipe_out hi]
    exact h i hi
theorem wipe_but {σ σ2 : L2.St} {vs js : List Nat} (b : But js (wipe σ vs) σ2) (hj : ∀ j ∈ js, j ∈ vs) : wipe σ2 vs = wipe σ vs := by
  refine wipe_eq (b.1.trans (wipe_length σ vs)) fun i hi => ?_
  rw [b.2 i fun z => hi (hj i z), wipe_out hi]
def wipeG (Γ : List Sl) : List Nat → List Sl
  | [] => Γ
  | v :: vs => (wipeG Γ vs).set v .un
theorem wipeG_length (Γ : List Sl) : ∀ vs : List Nat, (wipeG Γ vs).length = Γ.length
  | [] => rfl
  | v :: vs => by unfold wipeG; rw [List.length_set, wipeG_length Γ vs]
theorem wipeG_some {Γ : List Sl} {i : Nat} {s : Sl} : ∀ {vs : List Nat}, (wipeG Γ vs)[i]? = some s → s = .un ∨ (Γ[i]? = some s ∧ i ∉ vs)
  | [], h => .inr ⟨h, by simp⟩
  | v :: vs, h => by
    unfold wipeG at h
    by_cases e : v = i
    · subst e
      have hl : v < (wipeG Γ vs).length := by
        have := (List.getElem?_eq_some_iff.mp h).1
        rwa [List.length_set] at this
      rw [List.getElem?_set_self hl] at h
      cases h
      exact .inl rfl
    · rw [List.getElem?_set_ne e] at h
      rcases wipeG_some h with z | ⟨z1, z2⟩
      · exact .inl z
      · exact .inr ⟨z1, fun z => (List.mem_cons.mp z).elim (fun q => e q.symm) z2⟩
section
variable {c : Fc} {ρ : Rt} {Γ : List Sl} {n : Cs} {σ : L2.St} {H : Hp}
theorem SS.wipe (S : SS c ρ Γ n σ H) (vs : List Nat) : SS c ρ (wipeG Γ vs) n (L2.wipe σ vs) H :=
  S.forget (by rw [wipe_length, wipeG_length]; exact S.len) (wipeG_length Γ vs) fun i s h => (wipeG_some h).elim .inl fun z => .inr ⟨z.1, wipe_out z.2⟩
end
/-- what is asked of a comprehension: I by the turn, the list so far, the state -/
def LcAsk (c : Fc) (Γ : List Sl) (js vs : List Nat) (g : TG) (tt : TT) (te : TE) (ds : List Dt) (src : Option (Nat × Dt)) (n : Cs) (k : List Dt → Cs → Prop) : Prop := ∃ I : Nat → List Dt → Cs → Prop, I 0 [] n ∧ (∀ i es m, I i es m → chk src m.s) ∧
  (∀ i es m d, ds[i]? = some d → I i es m → Wg c (wipeG Γ vs) m js g d fun Γ2 m2 => Wt c Γ2 m2 tt fun b m3 => if b = true then We c Γ2 m3 te fun e m4 => szLt es.length = true ∧ I (i + 1) (es ++ [e]) m4 else I (i + 1) es m3) ∧
  ∀ es m, I ds.length es m → k es m
section
variable {c : Fc} {Γ : List Sl} {n : Cs} {k : Kd} {wi : TI} {g : TG} {tt : TT} {te : TE} {vs js : List Nat} {ta : TA}
theorem wn_lc (hj : ∀ j ∈ js, j ∈ vs) (h : Wi c Γ n wi fun ds src n1 => LcAsk c Γ js vs g tt te ds src n1 fun es m => k (.lst es) m) : Wn c Γ n (tLc wi g tt te vs) k := by
  intro y ρ σ H S Q hQ
  refine h y ρ σ H S _ fun m1 J H1 ds src n1 S1 x1 it ch hk => ?_
  obtain ⟨I, i0, hch, turn, done⟩ := hk
  intro D hD
  have nD := S1.lay.new hD
  have nDa : D ≠ c.a := fun z => nD (.inl z)
  have nDm : D ∉ m1 := fun z => nD (.inr (.inl z))
  have nDap : D ∉ y.ap := fun z => nD (.inr (.inr z))
  have h0 := S1.fresh0 hD
  have SD := S1.apart hD (.lst [])
  have mem : ∀ {m : List Addr}, D ∈ (c.at_ ⟨m, D :: y.ap⟩).y.ap := List.mem_cons_self
  refine ⟨fun i m H' => m = ds.length - i ∧ i ≤ ds.length ∧ ∃ m' acc es n', SS (c.at_ ⟨m', D :: y.ap⟩) ρ Γ n' σ H' ∧ Sx c.a ⟨m1, D :: y.ap⟩ (upd H1 D (.lst [])) ⟨m', D :: y.ap⟩ (upd H' D (.lst [])) ∧ H' D = some (.lst acc) ∧ DaAll (c.toWc.at_ ⟨m', D :: y.ap⟩) (c.toWc.at_ ⟨m', D :: y.ap⟩).av H' acc es ∧ I i es n',
    ⟨ds.length, by simp, Nat.zero_le _, m1, [], [], n1, SD, by
      have e : upd (upd H1 D (.lst [])) D (.lst []) = upd H1 D (.lst []) := by
        funext b
        by_cases hb : b = D
        · subst hb; rw [upd_same, upd_same]
        · rw [upd_ne hb]
      rw [e]; exact Sx.refl, upd_same, .nil, i0⟩, ?_⟩
  rintro i m H' ⟨rfl, hi, m', acc, es, n', S', x', hacc, da', ii⟩
  -- the step of the walked thing's world
  have xw : ∀ {m2 : List Addr} {H2 : Hp} {n2 : Cs}, SS (c.at_ ⟨m2, D :: y.ap⟩) ρ Γ n2 σ H2 → Sx c.a ⟨m1, D :: y.ap⟩ (upd H1 D (.lst [])) ⟨m2, D :: y.ap⟩ (upd H2 D (.lst [])) → Sx c.a ⟨m1, y.ap⟩ H1 ⟨m2, D :: y.ap⟩ H2 := fun {m2 H2 n2} S2 x2 => by
    refine ⟨x2.m, fun q hq => (List.mem_cons.mp hq).elim (fun e => .inr (e ▸ fr_none hD)) .inl, fun q hq => (x2.nw q hq).imp id fun z o e => z o (same_new hD _ _ e), fun b o hb hm e t => ?_⟩
    have hne : b ≠ D := ne_of_none e hD
    have w := x2.st b o hb hm (same_new hD _ _ e) t
    rwa [upd_ne hne] at w
  have xc := xw S' x'
  have cc := hch i es n' ii
  by_cases hlt : i < ds.length
  · refine .inr ⟨it.goes i _ n' H' hlt xc S'.lay cc, fun H2 => ∃ m' acc es n', SS (c.at_ ⟨m', D :: y.ap⟩) ρ Γ n' σ H2 ∧ Sx c.a ⟨m1, D :: y.ap⟩ (upd H1 D (.lst [])) ⟨m', D :: y.ap⟩ (upd H2 D (.lst [])) ∧ H2 D = some (.lst acc) ∧ DaAll (c.toWc.at_ ⟨m', D :: y.ap⟩) (c.toWc.at_ ⟨m', D :: y.ap⟩).av H2 acc es ∧ I (i + 1) es n',
      fun H2 q => ⟨ds.length - (i + 1), by omega, rfl, hlt, q⟩, ?_⟩
    intro x H2 yl
    obtain ⟨sm, d, hd, da⟩ := it.yields i _ n' H' x H2 hlt xc S'.lay cc yl
    have S2 := S'.same sm
    -- steps with D put back
    have updS : ∀ {m2 m3 : List Addr} {A B : Hp}, Sx c.a ⟨m2, D :: y.ap⟩ A ⟨m3, D :: y.ap⟩ B → D ∉ m2 → (∃ o, A D = some o ∧ isT o = false) → Sx c.a ⟨m2, D :: y.ap⟩ (upd A D (.lst [])) ⟨m3, D :: y.ap⟩ (upd B D (.lst [])) := fun {m2 m3 A B} x hm hA => by
      refine ⟨x.m, fun q hq => .inl hq, fun q hq => (x.nw q hq).imp id fun z o e => ?_, fun b o hb hm' e t => ?_⟩
      · by_cases hq2 : q = D
        · subst hq2
          obtain ⟨o2, a1, a2⟩ := hA
          exact absurd (z _ a1) (by rw [a2]; exact Bool.false_ne_true)
        · rw [upd_ne hq2] at e
          exact z o e
      · by_cases hb2 : b = D
        · subst hb2
          rw [upd_same] at e ⊢
          exact e
        · rw [upd_ne hb2] at e ⊢
          exact x.st b o hb hm' e t
    have nm' : D ∉ m' := S'.lay.dj D List.mem_cons_self
    have x2 : Sx c.a ⟨m', D :: y.ap⟩ H' ⟨m', D :: y.ap⟩ H2 := Sx.same sm
    have hacc2 := sm _ _ hacc
    have da2 : DaAll (c.toWc.at_ ⟨m', D :: y.ap⟩) (c.toWc.at_ ⟨m', D :: y.ap⟩).av H2 acc es := da'.keep (same_kp sm)
    refine turn i es n' d hd ii ⟨m', D :: y.ap⟩ ρ (wipe σ vs) H2 x (S2.wipe vs) da _ fun Γ2 σ2 S3 bt wt => ⟨wipe_but bt hj, ?_⟩
    refine wt ⟨m', D :: y.ap⟩ ρ σ2 H2 S3 _ fun m3 b H3 n3 S4 x4 q4 => ?_
    have nm3 : D ∉ m3 := S4.lay.dj D List.mem_cons_self
    have hacc3 : H3 D = some (.lst acc) := x4.st D _ nDa nm' hacc2 rfl
    have da3 : DaAll (c.toWc.at_ ⟨m3, D :: y.ap⟩) (c.toWc.at_ ⟨m3, D :: y.ap⟩).av H3 acc es := DaAll.sx (c := c.toWc.at_ ⟨m', D :: y.ap⟩) da2 x4
    have x24 : Sx c.a ⟨m', D :: y.ap⟩ H' ⟨m3, D :: y.ap⟩ H3 := x2.trans x4 S4.lay.na S4.lay.dj
    have up3 := updS x24 nm' ⟨_, hacc, rfl⟩
    have xs3 : Sx c.a ⟨m1, D :: y.ap⟩ (upd H1 D (.lst [])) ⟨m3, D :: y.ap⟩ (upd H3 D (.lst [])) := x'.trans up3 S4.lay.na S4.lay.dj
    have Sg3 : SS (c.at_ ⟨m3, D :: y.ap⟩) ρ Γ n3 σ H3 := S2.go x4 S4.lay fun _ z => z
    cases b with
    | false => exact ⟨m3, acc, es, n3, Sg3, xs3, hacc3, da3, q4⟩
    | true =>
      refine q4 ⟨m3, D :: y.ap⟩ ρ σ2 H3 S4 _ fun m4 z H4 e n4 S5 x5 h5 q5 => ?_
      have nm4 : D ∉ m4 := S5.lay.dj D List.mem_cons_self
      have hacc4 : H4 D = some (.lst acc) := x5.st D _ nDa nm3 hacc3 rfl
      have da4 : DaAll (c.toWc.at_ ⟨m4, D :: y.ap⟩) (c.toWc.at_ ⟨m4, D :: y.ap⟩).av H4 acc es := DaAll.sx (c := c.toWc.at_ ⟨m3, D :: y.ap⟩) da3 x5
      have up4 := updS x5 nm3 ⟨_, hacc3, rfl⟩
      have xs4 : Sx c.a ⟨m1, D :: y.ap⟩ (upd H1 D (.lst [])) ⟨m4, D :: y.ap⟩ (upd H4 D (.lst [])) := xs3.trans up4 S5.lay.na S5.lay.dj
      have Sg4 : SS (c.at_ ⟨m4, D :: y.ap⟩) ρ Γ n4 σ H4 := Sg3.go x5 S5.lay fun _ z => z
      have e0 : upd (upd H4 D (.lst (acc ++ [z]))) D (.lst []) = upd H4 D (.lst []) := by
        funext b
        by_cases hb : b = D
        · subst hb; rw [upd_same, upd_same]
        · rw [upd_ne hb, upd_ne hb, upd_ne hb]
      refine ⟨acc, hacc4, by rw [da4.length]; exact szlt q5.1, m4, acc ++ [z], es ++ [e], n4, Sg4.turn mem h0 _, by rw [e0]; exact xs4, upd_same, ?_, q5.2⟩
      exact daa_turn (c := c.at_ ⟨m4, D :: y.ap⟩) mem (da4.append (.cons h5 .nil))
  · have e : i = ds.length := by omega
    subst e
    have nm' : D ∉ m' := S'.lay.dj D List.mem_cons_self
    refine .inl ⟨it.stops _ n' H' xc S'.lay cc, hQ m' D acc H' (.lst es) n' S' nDap ?_ ?_ ⟨_, hacc, rfl, rfl, rfl⟩ da' (done es n' ii)⟩
    · have xc' : Sx c.a ⟨m1, y.ap⟩ H1 ⟨m', y.ap⟩ H' := ⟨xc.m, fun _ h => .inl h, xc.nw, xc.st⟩
      refine x1.trans xc' ⟨S'.lay.na.1, fun z => S'.lay.na.2 (List.mem_cons_of_mem _ z)⟩ fun p hp => S'.lay.dj p (List.mem_cons_of_mem _ hp)
    · exact x1.fr nDa (fun z => nDm (pre_mem x1.m z)) (fr_none hD)
end
end Pb
namespace Pb
open PySem PySem.Spec PyProof.Rows L2

/-! ### evaluations: the draws that are left and the cells go in and come out -/
inductive Re (α : Type) where
  | ok (a : α)
  | ex (cn : Str) (es : List (Str × Dt))
abbrev Sta : Type := List Nat × List Dt
abbrev Ev (α : Type) : Type := Sta → Option (Re α × Sta)
namespace Ev
variable {α β γ : Type}
def pure (a : α) : Ev α := fun l => some (.ok a, l)
def rais (cn : Str) (es : List (Str × Dt)) : Ev α := fun l => some (.ex cn es, l)
def stuck : Ev α := fun _ => none
def bind (f : Ev α) (g : α → Ev β) : Ev β := fun l => match f l with
  | some (.ok a, l') => g a l'
  | some (.ex cn es, l') => some (.ex cn es, l')
  | none => none
def of : Option α → Ev α
  | some a => pure a
  | none => stuck
/-- by the cells -/
def ask (f : List Dt → Option α) : Ev α := fun l => match f l.2 with
  | some a => some (.ok a, l)
  | none => none
/-- a new cell -/
def new (d : Dt) : Ev Dt := fun l => some (.ok (.rf l.2.length), (l.1, l.2 ++ [d]))
/-- the cells change -/
def upd (f : List Dt → Option (α × List Dt)) : Ev α := fun l => match f l.2 with
  | some (a, s) => some (.ok a, (l.1, s))
  | none => none
def calm (f : Ev α) : Ev α := fun l => match f l with
  | some (.ok a, l') => some (.ok a, l')
  | _ => none
def catch_ (f : Ev α) (g : α → Ev β) (h : Str → List (Str × Dt) → Ev β) : Ev β := fun l => match f l with
  | some (.ok a, l') => g a l'
  | some (.ex cn es, l') => h cn es l'
  | none => none
def draw (m : Int) : Ev Dt := fun l => if 0 < m ∧ m < 1073741824 then (match l.1 with
  | x :: l1 => some (.ok (.int ((x : Int) % m)), (l1, l.2))
  | [] => none) else none
@[simp] theorem pure_bind (a : α) (g : α → Ev β) : (pure a).bind g = g a := rfl
@[simp] theorem rais_bind (cn : Str) (es : List (Str × Dt)) (g : α → Ev β) : (rais cn es : Ev α).bind g = rais cn es := rfl
@[simp] theorem stuck_bind (g : α → Ev β) : (stuck : Ev α).bind g = stuck := rfl
@[simp] theorem of_some (a : α) : of (some a) = pure a := rfl
@[simp] theorem of_none : (of none : Ev α) = stuck := rfl
@[simp] theorem calm_pure (a : α) : calm (pure a) = pure a := rfl
@[simp] theorem calm_stuck : calm (stuck : Ev α) = stuck := rfl
@[simp] theorem catch_pure (a : α) (g : α → Ev β) (h : Str → List (Str × Dt) → Ev β) : catch_ (pure a) g h = g a := rfl
@[simp] theorem catch_rais (cn : Str) (es : List (Str × Dt)) (g : α → Ev β) (h : Str → List (Str × Dt) → Ev β) : catch_ (rais cn es) g h = h cn es := rfl
@[simp] theorem bind_assoc (f : Ev α) (g : α → Ev β) (h : β → Ev γ) : (f.bind g).bind h = f.bind fun a => (g a).bind h := by
  funext l
  show (match (match f l with | some (.ok a, l') => g a l' | some (.ex cn es, l') => some (.ex cn es, l') | none => none) with | some (.ok a, l') => h a l' | some (.ex cn es, l') => some (.ex cn es, l') | none => none) = _
  unfold bind
  cases f l with
  | none => rfl
  | some x =>
    obtain ⟨r, l'⟩ := x
    cases r <;> rfl
end Ev
/-- never stuck with n draws left -/
def NS {α : Type} (f : Ev α) (n : Cs) : Prop := ∀ l : List Nat, l.length = n.n → ∃ x, f (l, n.s) = some x
/-- some draws lead to r, with m left -/
def Hit {α : Type} (f : Ev α) (n : Cs) (r : Re α) (m : Cs) : Prop := ∃ u : List Nat, u.length + m.n = n.n ∧ ∀ l : List Nat, l.length = m.n → f (u ++ l, n.s) = some (r, (l, m.s))
def EOk {α : Type} (c : Fc) (f : Ev α) (n : Cs) : Prop := NS f n ∧ ∀ cn es m, Hit f n (.ex cn es) m → c.xk cn es m
section
variable {α β : Type} {c : Fc} {f : Ev α} {g : α → Ev β} {n m m' : Cs} {a : α} {r : Re β}
theorem app_len {u l : List Nat} {n m : Nat} (h : u.length + m = n) (hl : l.length = m) : (u ++ l).length = n := by
  rw [List.length_append, hl]; exact h
theorem Hit.bind (h : Hit f n (.ok a) m) (h2 : Hit (g a) m r m') : Hit (f.bind g) n r m' := by
  obtain ⟨u, hu, e⟩ := h
  obtain ⟨v, hv, e2⟩ := h2
  refine ⟨u ++ v, by rw [List.length_append]; omega, fun l hl => ?_⟩
  rw [List.append_assoc]
  unfold Ev.bind
  rw [e (v ++ l) (app_len hv hl)]
  exact e2 l hl
theorem Hit.bindX {cn : Str} {es : List (Str × Dt)} (h : Hit f n (.ex cn es) m) : Hit (f.bind g) n (.ex cn es) m := by
  obtain ⟨u, hu, e⟩ := h
  refine ⟨u, hu, fun l hl => ?_⟩
  unfold Ev.bind
  rw [e l hl]
theorem EOk.bindL (h : EOk c (f.bind g) n) : EOk c f n := by
  refine ⟨fun l hl => ?_, fun cn es m q => h.2 cn es m q.bindX⟩
  obtain ⟨x, e⟩ := h.1 l hl
  unfold Ev.bind at e
  cases q : f (l, n.s) with
  | none => rw [q] at e; cases e
  | some y => exact ⟨y, rfl⟩
theorem EOk.bindR (h : EOk c (f.bind g) n) (q : Hit f n (.ok a) m) : EOk c (g a) m := by
  refine ⟨fun l hl => ?_, fun cn es m' q' => h.2 cn es m' (q.bind q')⟩
  obtain ⟨u, hu, e⟩ := q
  obtain ⟨x, e2⟩ := h.1 (u ++ l) (app_len hu hl)
  unfold Ev.bind at e2
  rw [e l hl] at e2
  exact ⟨x, e2⟩
theorem hit_pure : Hit (Ev.pure a) n (.ok a) n := ⟨[], Nat.zero_add _, fun l _ => rfl⟩
theorem hit_rais {cn : Str} {es : List (Str × Dt)} : Hit (Ev.rais cn es : Ev α) n (.ex cn es) n := ⟨[], Nat.zero_add _, fun l _ => rfl⟩
theorem lens (n : Nat) : ∃ l : List Nat, l.length = n := ⟨List.replicate n 0, List.length_replicate⟩
theorem EOk.of {o : Option α} (h : EOk c (Ev.of o) n) : ∃ a, o = some a := by
  obtain ⟨l, hl⟩ := lens n.n
  obtain ⟨x, e⟩ := h.1 l hl
  cases o with
  | none => cases e
  | some a => exact ⟨a, rfl⟩
theorem hit_of {o : Option α} (h : o = some a) : Hit (Ev.of o) n (.ok a) n := by rw [h]; exact hit_pure
theorem EOk.ask {o : List Dt → Option α} (h : EOk c (Ev.ask o) n) : ∃ a, o n.s = some a := by
  obtain ⟨l, hl⟩ := lens n.n
  obtain ⟨x, e⟩ := h.1 l hl
  unfold Ev.ask at e
  dsimp only at e
  cases q : o n.s with
  | none => rw [q] at e; cases e
  | some a => exact ⟨a, rfl⟩
theorem hit_ask {o : List Dt → Option α} (h : o n.s = some a) : Hit (Ev.ask o) n (.ok a) n := ⟨[], Nat.zero_add _, fun l _ => by
  unfold Ev.ask
  dsimp only
  rw [h]
  rfl⟩
theorem EOk.upd {o : List Dt → Option (α × List Dt)} (h : EOk c (Ev.upd o) n) : ∃ a s, o n.s = some (a, s) := by
  obtain ⟨l, hl⟩ := lens n.n
  obtain ⟨x, e⟩ := h.1 l hl
  unfold Ev.upd at e
  dsimp only at e
  cases q : o n.s with
  | none => rw [q] at e; cases e
  | some a => exact ⟨a.1, a.2, rfl⟩
theorem hit_upd {o : List Dt → Option (α × List Dt)} {s : List Dt} (h : o n.s = some (a, s)) : Hit (Ev.upd o) n (.ok a) ⟨n.n, s⟩ := ⟨[], Nat.zero_add _, fun l _ => by
  unfold Ev.upd
  dsimp only
  rw [h]
  rfl⟩
theorem hit_new {d : Dt} : Hit (Ev.new d) n (.ok (.rf n.s.length)) ⟨n.n, n.s ++ [d]⟩ := ⟨[], Nat.zero_add _, fun l _ => rfl⟩
theorem EOk.stuck (h : EOk c (Ev.stuck : Ev α) n) : False := by
  obtain ⟨l, hl⟩ := lens n.n
  obtain ⟨x, e⟩ := h.1 l hl
  cases e
theorem NS.calm (h : NS f.calm n) : NS f n ∧ ∀ cn es m, ¬ Hit f n (.ex cn es) m := by
  refine ⟨fun l hl => ?_, fun cn es m q => ?_⟩
  · obtain ⟨x, e⟩ := h l hl
    unfold Ev.calm at e
    cases q : f (l, n.s) with
    | none => rw [q] at e; cases e
    | some y => exact ⟨y, rfl⟩
  · obtain ⟨u, hu, e⟩ := q
    obtain ⟨l, hl⟩ := lens m.n
    obtain ⟨x, e2⟩ := h (u ++ l) (app_len hu hl)
    unfold Ev.calm at e2
    rw [e l hl] at e2
    cases e2
theorem Hit.calm (h : Hit f n (.ok a) m) : Hit f.calm n (.ok a) m := by
  obtain ⟨u, hu, e⟩ := h
  refine ⟨u, hu, fun l hl => ?_⟩
  unfold Ev.calm
  rw [e l hl]
theorem Hit.cat {g : α → Ev β} {h : Str → List (Str × Dt) → Ev β} (q : Hit f n (.ok a) m) (q2 : Hit (g a) m r m') : Hit (f.catch_ g h) n r m' := by
  obtain ⟨u, hu, e⟩ := q
  obtain ⟨v, hv, e2⟩ := q2
  refine ⟨u ++ v, by rw [List.length_append]; omega, fun l hl => ?_⟩
  rw [List.append_assoc]
  unfold Ev.catch_
  rw [e (v ++ l) (app_len hv hl)]
  exact e2 l hl
theorem Hit.catX {g : α → Ev β} {h : Str → List (Str × Dt) → Ev β} {cn : Str} {es : List (Str × Dt)} (q : Hit f n (.ex cn es) m) (q2 : Hit (h cn es) m r m') : Hit (f.catch_ g h) n r m' := by
  obtain ⟨u, hu, e⟩ := q
  obtain ⟨v, hv, e2⟩ := q2
  refine ⟨u ++ v, by rw [List.length_append]; omega, fun l hl => ?_⟩
  rw [List.append_assoc]
  unfold Ev.catch_
  rw [e (v ++ l) (app_len hv hl)]
  exact e2 l hl
theorem EOk.catN {g : α → Ev β} {h : Str → List (Str × Dt) → Ev β} (ok : EOk c (f.catch_ g h) n) : NS f n := fun l hl => by
  obtain ⟨x, e⟩ := ok.1 l hl
  unfold Ev.catch_ at e
  cases q : f (l, n.s) with
  | none => rw [q] at e; cases e
  | some y => exact ⟨y, rfl⟩
theorem EOk.catL {g : α → Ev β} {h : Str → List (Str × Dt) → Ev β} (ok : EOk c (f.catch_ g h) n) (q : Hit f n (.ok a) m) : EOk c (g a) m := by
  refine ⟨fun l hl => ?_, fun cn es m' q' => ok.2 cn es m' (q.cat q')⟩
  obtain ⟨u, hu, e⟩ := q
  obtain ⟨x, e2⟩ := ok.1 (u ++ l) (app_len hu hl)
  unfold Ev.catch_ at e2
  rw [e l hl] at e2
  exact ⟨x, e2⟩
theorem EOk.catR {g : α → Ev β} {h : Str → List (Str × Dt) → Ev β} {cn : Str} {es : List (Str × Dt)} (ok : EOk c (f.catch_ g h) n) (q : Hit f n (.ex cn es) m) : EOk c (h cn es) m := by
  refine ⟨fun l hl => ?_, fun cn' es' m' q' => ok.2 cn' es' m' (q.catX q')⟩
  obtain ⟨u, hu, e⟩ := q
  obtain ⟨x, e2⟩ := ok.1 (u ++ l) (app_len hu hl)
  unfold Ev.catch_ at e2
  rw [e l hl] at e2
  exact ⟨x, e2⟩
theorem EOk.pos {p : Prop} [Decidable p] {f : Ev α} (h : EOk c (if p then f else Ev.stuck) n) : p ∧ EOk c f n := by
  by_cases hp : p
  · rw [if_pos hp] at h; exact ⟨hp, h⟩
  · rw [if_neg hp] at h; exact h.stuck.elim
theorem hit_if {p : Prop} [Decidable p] {f g : Ev α} {r : Re α} (hp : p) (h : Hit f n r m) : Hit (if p then f else g) n r m := by rw [if_pos hp]; exact h
theorem hit_else {p : Prop} [Decidable p] {f g : Ev α} {r : Re α} (hp : ¬ p) (h : Hit g n r m) : Hit (if p then f else g) n r m := by rw [if_neg hp]; exact h
theorem ns_pos {p : Prop} [Decidable p] {f : Ev α} {n : Cs} (h : NS (if p then f else .stuck) n) : p := by
  by_cases hp : p
  · exact hp
  · obtain ⟨l, hl⟩ := lens n.n
    obtain ⟨x, e⟩ := h l hl
    rw [if_neg hp] at e
    cases e
end
/-! ### calls by evaluations -/
def spE (K : PySem.W.Frag) (mg : Str → Option Value) (T : List (Addr × Str)) (F : List Dt → Ev Dt) : Sp := fun vs H Q E => ∃ (c : Wc) (n : Cs) (ds : List Dt), (c.K = K ∧ c.mg = mg ∧ c.T = T ∧ c.er = none) ∧ Lay c n H ∧ DaAll c c.av H vs ds ∧ NS (F ds) n ∧
  (∀ m v H' d n', Sx c.a c.y H ⟨m, c.y.ap⟩ H' → Lay (c.at_ ⟨m, c.y.ap⟩) n' H' → Da (c.at_ ⟨m, c.y.ap⟩) (c.at_ ⟨m, c.y.ap⟩).av H' v d → Hit (F ds) n (.ok d) n' → Q v H') ∧
  (∀ (cn : Str) (C x : Addr) (m : List Addr) (H' : Hp) (fs : List (Str × V)) (es : List (Str × Dt)) (n' : Cs), Sx c.a c.y H ⟨m, c.y.ap⟩ H' → Lay (c.at_ ⟨m, c.y.ap⟩) n' H' → mg cn = some (.ref C) → ¬ (c.at_ ⟨m, c.y.ap⟩).av x → H' x = some (.xd fs) → fs.map (·.1) = es.map (·.1) →
    DaAll (c.at_ ⟨m, c.y.ap⟩) (c.at_ ⟨m, c.y.ap⟩).av H' (fs.map (·.2)) (es.map (·.2)) → Hit (F ds) n (.ex cn es) n' → E (.ref C) (some x) H')
theorem w_callE {c : Fc} {F : List Dt → Ev Dt} {ds : List Dt} {n : Cs} {k : Kd} (her : c.er = none) (hp : NS (F ds) n) (hk : ∀ d m, Hit (F ds) n (.ok d) m → k d m) (hx : ∀ cn es m, Hit (F ds) n (.ex cn es) m → c.xk cn es m) :
    RFD c (fun vs H Q => spE c.K c.mg c.T F vs H Q c.E) ds n k := by
  intro y ρ H vs L sx aps ex da Q q
  refine ⟨c.toWc.at_ y, n, ds, ⟨rfl, rfl, rfl, her⟩, L, da, hp, ?_, ?_⟩
  · intro m v H' d n' x L' h1 h2
    exact q m v H' d n' x L' h1 (hk d n' h2)
  · intro cn C x m H' fs es n' st L' h1 nx h2 hn h3 h4
    have t := sx.trans st L'.na L'.dj
    refine ex cn C x m H' fs es n' h1 ⟨t.m, fun _ h => .inl h, t.nw, t.st⟩ (Lay.drop (c := c.toWc.at_ ⟨m, y.ap⟩) L' aps) (fun z => nx ?_) h2 hn (DaAll.drop' (c := c.toWc.at_ ⟨m, y.ap⟩) h3 aps) (hx cn es n' h4)
    exact z.imp id fun z => z.imp id (aps x)
theorem w_callE0 {c : Fc} {F : List Dt → Ev Dt} {ds : List Dt} {n : Cs} {k : Kd} {E : XK} (her : c.er = none) (hp : NS (F ds) n) (hk : ∀ d m, Hit (F ds) n (.ok d) m → k d m) (hx : ∀ cn es m, ¬ Hit (F ds) n (.ex cn es) m) :
    RFD c (fun vs H Q => spE c.K c.mg c.T F vs H Q E) ds n k := by
  intro y ρ H vs L sx aps ex da Q q
  refine ⟨c.toWc.at_ y, n, ds, ⟨rfl, rfl, rfl, her⟩, L, da, hp, ?_, ?_⟩
  · intro m v H' d n' x L' h1 h2
    exact q m v H' d n' x L' h1 (hk d n' h2)
  · intro cn C x m H' fs es n' st L' h1 nx h2 hn h3 h4
    exact absurd h4 (hx cn es n')
/-! ### a body's entry -/
def gam (N : List Str) (ds : List Dt) : List Sl := ds.map Sl.da ++ List.replicate (N.length - ds.length) Sl.un
theorem gam_da {N : List Str} {ds : List Dt} {i : Nat} {d : Dt} (h : (gam N ds)[i]? = some (Sl.da d)) : ds[i]? = some d := by
  unfold gam at h
  by_cases hi : i < ds.length
  · rw [List.getElem?_append_left (by simpa using hi), List.getElem?_map] at h
    cases e : ds[i]? with
    | none => rw [e] at h; cases h
    | some z => rw [e] at h; cases h; rfl
  · rw [List.getElem?_append_right (by simpa using hi), List.getElem?_replicate] at h
    split at h <;> cases h
theorem ss_start {c : Fc} {y : Ly} {H : Hp} {N : List Str} {vs : List V} {ds : List Dt} {n : Cs} (L : Lay (c.toWc.at_ y) n H) (da : DaAll (c.toWc.at_ y) (c.toWc.at_ y).av H vs ds) (ex : Exk c ⟨H, y, (gam N ds).length⟩) :
    SS (c.at_ y) ⟨H, y, (gam N ds).length⟩ (gam N ds) n (L2.start N vs) H where
  len := by
    unfold gam L2.start
    rw [List.length_append, List.length_append, List.length_map, List.length_map, List.length_replicate, List.length_replicate, da.length]
  gl := rfl
  lay := L
  sx := Sx.refl
  aps := fun _ h => h
  ex := ex
  dat := fun i d h => by
    obtain ⟨v, h1, h2⟩ := da.get (gam_da h)
    refine ⟨v, ?_, h2⟩
    unfold L2.start
    have hi : i < vs.length := (List.getElem?_eq_some_iff.mp h1).1
    rw [List.getElem?_append_left (by simpa using hi), List.getElem?_map, h1]
    rfl
/-- what is wanted behind a body -/
def ndE (f : Ev Dt) (n : Cs) : Nd := { nx := fun _ m => Hit f n (.ok .non) m, rt := fun d m => Hit f n (.ok d) m }
section
variable {P : Program} {w : World} {K : PySem.W.Frag} {mg : Str → Option Value} {T : List (Addr × Str)} {base : Heap} {x qual : Str} {params : Arguments} {body : List Stmt} {scope : Scope} {dvs : List V} {kws : List (Str × V)} {f : Addr} {fd : FuncData} {F : List Dt → Ev Dt}
theorem spE_len {vs : List V} {H : Hp} {Q : VK} {E : XK} {ps : List Str} (len : ∀ ds n, NS (F ds) n → ds.length = ps.length) (h : spE K mg T F vs H Q E) : vs.length = ps.length := by
  obtain ⟨c, n, ds, _, _, da, hp, _⟩ := h
  rw [da.length]
  exact len ds n hp
/-- a promise by the body's reading -/
theorem spE_run {N : List Str} {t : TS} {vs : List V} {H : Hp} {Q : VK} {E : XK} (hw : ∀ (c : Fc) (ds : List Dt) (n : Cs), c.K = K → c.mg = mg → c.T = T → c.E = E → c.er = none → EOk c (F ds) n → Ws c (gam N ds) n t (ndE (F ds) n)) (h : spE K mg T F vs H Q E) :
    t { nx := fun _ H' => Q .non H', rt := Q } (L2.start N vs) H := by
  obtain ⟨c, n, ds, ⟨hK, hm, hT, her⟩, L, da, hp, hq, hx⟩ := h
  refine hw ⟨c, E, fun cn es m => Hit (F ds) n (.ex cn es) m⟩ ds n hK hm hT rfl her ⟨hp, fun _ _ _ z => z⟩ c.y ⟨H, c.y, (gam N ds).length⟩ (L2.start N vs) H ?_ _ ?_
  · refine ss_start (c := ⟨c, E, fun cn es m => Hit (F ds) n (.ex cn es) m⟩) L da ?_
    intro cn C x m H' fs es n' h1 h2 h3 h4 h5 h6 h7 h8
    exact hx cn C x m H' fs es n' h2 h3 (by rw [← hm]; exact h1) h4 h5 h6 h7 h8
  · refine ⟨fun y' Γ n' σ H' S' q => ?_, fun m v H' d n' o h1 q => ?_, fun _ _ _ _ _ _ z => z, fun _ _ _ _ _ _ z => z⟩
    · have o := S'.out
      exact hq y'.m .non H' .non n' o.sx o.lay .non q
    · exact hq m v H' d n' o.sx o.lay h1 q
/-- a def out of which nothing is raised -/
theorem okE0 {b : Bool} {N ps : List Str} {k : Nat} (Fd : FunD K x qual params body scope dvs kws f fd) (sc : FnScope N ps scope) (len : ∀ ds n, NS (F ds) n → ds.length = ps.length)
    (hbody : ∀ (cdv : Value) (A : Around) (outer : List Env) (s : Shared) (H : Hp) (E : XK), RoomG b k (A.deeper (envOfC qual scope s.heap.objs.size f cdv)) →
      ∃ t, PSs (cxOf CX0 P w K mg base N qual scope f cdv A outer s H E).nox body t ∧ ∀ (c : Fc), c.K = K → c.mg = mg → c.T = T → c.E = E0 → c.er = none → ∀ (ds : List Dt) (n : Cs), NS (F ds) n → (∀ cn es m, ¬ Hit (F ds) n (.ex cn es) m) → Ws c (gam N ds) n t (ndE (F ds) n))
    (calm : ∀ ds n, NS (F ds) n → ∀ cn es m, ¬ Hit (F ds) n (.ex cn es) m) :
    FnG b P w K mg base CX0 (k + 1) f fd ps (spE K mg T F) := by
  refine okG0 Fd sc (fun vs H Q E h => spE_len len h) fun cdv A outer s H vs Q E hr h => ?_
  obtain ⟨t, ht, hw⟩ := hbody cdv A outer s H E hr
  refine ⟨t, ht, spE_run (E := E0) (fun c ds n hK hm hT hE her ok => hw c hK hm hT hE her ds n ok.1 (calm ds n ok.1)) ?_⟩
  obtain ⟨c, n, ds, e, L, da, hp, hq, hx⟩ := h
  exact ⟨c, n, ds, e, L, da, hp, hq, fun cn C x m H' fs es n' _ _ _ _ _ _ _ z => (calm ds n hp cn es n' z).elim⟩
/-- a def that may raise -/
theorem okEX {b : Bool} {N ps : List Str} {k : Nat} (Fd : FunD K x qual params body scope dvs kws f fd) (sc : FnScope N ps scope) (len : ∀ ds n, NS (F ds) n → ds.length = ps.length)
    (hbody : ∀ (cdv : Value) (A : Around) (outer : List Env) (s : Shared) (H : Hp) (E : XK), RoomG b k (A.deeper (envOfC qual scope s.heap.objs.size f cdv)) →
      ∃ t, PSs (cxOf (L2.CX P w) P w K mg base N qual scope f cdv A outer s H E) body t ∧ ∀ (c : Fc) (ds : List Dt) (n : Cs), c.K = K → c.mg = mg → c.T = T → c.E = E → c.er = none → EOk c (F ds) n → Ws c (gam N ds) n t (ndE (F ds) n)) :
    FnG b P w K mg base (L2.CX P w) (k + 1) f fd ps (spE K mg T F) := by
  refine okG Fd sc (fun vs H Q E h => spE_len len h) fun cdv A outer s H vs Q E hr h => ?_
  obtain ⟨t, ht, hw⟩ := hbody cdv A outer s H E hr
  exact ⟨t, ht, spE_run hw h⟩
/-- a def that makes lambdas -/
theorem okE0m {b : Bool} {N ps : List Str} {k : Nat} (Fd : FunD K x qual params body scope dvs kws f fd) (sc : FnScope N ps scope) (len : ∀ ds n, NS (F ds) n → ds.length = ps.length)
    (hbody : ∀ (A : Around) (outer : List Env) (s : Shared) (H : Hp) (E : XK), RoomG b k (A.deeper (envOfC qual scope s.heap.objs.size f fd.code)) →
      ∃ t, PSs (cxOf CX0 P w K mg base N qual scope f fd.code A outer s H E).nox body t ∧ ∀ (c : Fc), c.K = K → c.mg = mg → c.T = T → c.E = E0 → c.er = none → ∀ (ds : List Dt) (n : Cs), NS (F ds) n → (∀ cn es m, ¬ Hit (F ds) n (.ex cn es) m) → Ws c (gam N ds) n t (ndE (F ds) n))
    (calm : ∀ ds n, NS (F ds) n → ∀ cn es m, ¬ Hit (F ds) n (.ex cn es) m) :
    FnG b P w K mg base CX0 (k + 1) f fd ps (spE K mg T F) := by
  obtain ⟨oc, od, dV, kV, doc, pm, an, cdv, ct, osl, rfl, lk, hcd, _, _⟩ := Fd.ex
  refine fnG_of lk hcd sc (fun vs H Q E h => spE_len len h) fun A outer s H vs Q E hr h => ?_
  obtain ⟨t, ht, hw⟩ := hbody A outer s H E hr
  refine ⟨t, ht.nox, spE_run (E := E0) (fun c ds n hK hm hT hE her ok => hw c hK hm hT hE her ds n ok.1 (calm ds n ok.1)) ?_⟩
  obtain ⟨c, n, ds, e, L, da, hp, hq, hx⟩ := h
  exact ⟨c, n, ds, e, L, da, hp, hq, fun cn C x m H' fs es n' _ _ _ _ _ _ _ z => (calm ds n hp cn es n' z).elim⟩
end
end Pb
namespace Pb
open PySem PySem.Spec PyProof.Rows L2

section
/-! ### the law's def and the end of a row -/
section
variable {P : Program} {w : World} {K : PySem.W.Frag} {mg mb : Str → Option Value} {CX : CXT} {k : Nat} {fa a : Addr} {fd : FuncData} {x : Str} {sp : Sp} {s1 : Shared} {vs : List Value} {ns : List Int}
/-- what the row wants of the law's call -/
def Good (s1 : Shared) (r : Result) (s' : Shared) : Prop := r = .ok (.ret (.bool true)) ∧ OldK s1.heap s'.heap ∧ s'.os = s1.os ∧ AllBare s'.gens
theorem law_from {H : Hp} (F : ∀ base : Heap, K.In base → base.Ns mainGlobals mg → FnG true P w K mg base CX k fa fd [x] sp) (hbind : ∀ (s : Shared) (u : Value), BindsTo s fd ⟨[u], []⟩ [(x, u)])
    (inK : K.In s1.heap) (nsG : s1.heap.Ns mainGlobals mg) (nsB : s1.heap.Ns builtinsNs mb) (bb : ∀ x : Str, x ≠ "__name__" → mb x = bootBuiltins x) (lim : s1.heap.NoLimit) (g0 : s1.gens = #[])
    (hr : RoomG true k callerA) (only : Only H) (ok : HOk P w H s1.heap) (scr : ∀ b, H b ≠ none → b = a) (scrK : H a ≠ none → K.lookup a = none)
    (lst : s1.heap.get? a = some { cls := .type "list", data := .seq vs.toArray }) (pr : sp [.ref a] H (fun v _ => v = .bl true) fun _ _ _ => False) (noX : ∀ H e s', CX [] H s1 (fun _ _ _ => False) e s' → False) :
    codeAny (model P w) callerA (.call (.ref fa) ⟨[.ref a], []⟩) (Good s1) s1 := by
  have dictFree : ∀ (b : Addr) (ob : Obj) (es : Array DictEntry) (ep : Nat), s1.heap.get? b = some ob → ob.data = .dict es ep → H b = none := by
    intro b ob es ep e d
    by_cases q : H b = none
    · exact q
    · have eb := scr b q
      subst eb
      rw [lst] at e
      cases e
      have d' : Data.seq vs.toArray _ = Data.dict es ep := d
      cases d'
  have ns2 : ∀ (b : Addr) (m : Str → Option Value), s1.heap.Ns b m → (hidT s1.heap H).Ns b m := by
    rintro b m ⟨ob, es, ep, e, d, r⟩
    exact ⟨ob, es, ep, hidT_get e (dictFree b ob es ep e d), d, r⟩
  have inB : K.In (hidT s1.heap H) := by
    intro b ob e
    refine hidT_get (inK b ob e) ?_
    by_cases q : H b = none
    · exact q
    · have eb := scr b q
      subst eb
      rw [scrK q] at e
      cases e
  obtain ⟨mc, l1, l2⟩ := lim
  have md : Mod K mg (hidT s1.heap H) := ⟨inB, ns2 _ _ nsG, ⟨mb, ns2 _ _ nsB, bb⟩, mc, ns2 _ _ l1, l2⟩
  have ev : Env0 P w K mg (hidT s1.heap H) callerA [] s1 H := {
    frames := rfl
    mod := md
    bs := fun b ob e => of_hidT e
    bsz := Nat.le_of_eq (hidT_size _ _)
    funs := trivial
    frf := fun b hb => by
      have z : b ∈ ([] : List Addr) := hb
      simp at z
    hok := ok
    bare := .of_eq g0 }
  have run := (F _ inB (ns2 _ _ nsG)).run callerA [] s1 H ⟨[.ref a], []⟩ [.ref a] [.ref a] _ _ hr ev (hbind s1 (.ref a)) (.cons rfl .nil) pr
  refine codeAny_mono run ?_
  intro r s' h
  cases r with
  | error e => exact (noX H e s' h).elim
  | ok fl =>
    cases fl with
    | ret u =>
      obtain ⟨v, H', eo, br, un, ok', rel, q⟩ := h
      have q1 : v = .bl true := q
      subst q1
      have q2 : u = Value.bool true := rel
      subst q2
      refine ⟨rfl, OldK.of_keep ?_, eo, br⟩
      intro b ob e
      rcases only b with z | ⟨o2, xs, z⟩
      · refine un.keep b ob e z (fun y => ?_) (by simp)
        have y' : b ∈ ([] : List Addr) := y
        simp at y'
      · obtain ⟨e1, _⟩ := ok b _ z
        obtain ⟨e2, _⟩ := ok' b _ (un.frzs b o2 _ z)
        rw [e] at e1
        cases e1
        exact e2
    | next => exact h.elim
    | brk => exact h.elim
    | cont => exact h.elim
theorem law_go (F : ∀ base : Heap, K.In base → base.Ns mainGlobals mg → FnG true P w K mg base CX k fa fd [x] sp) (hbind : ∀ (s : Shared) (u : Value), BindsTo s fd ⟨[u], []⟩ [(x, u)])
    (inK : K.In s1.heap) (nsG : s1.heap.Ns mainGlobals mg) (nsB : s1.heap.Ns builtinsNs mb) (bb : ∀ x : Str, x ≠ "__name__" → mb x = bootBuiltins x) (lim : s1.heap.NoLimit) (g0 : s1.gens = #[])
    (hr : RoomG true k callerA) (lst : s1.heap.get? a = some { cls := .type "list", data := .seq vs.toArray }) (its : IntsAre vs ns) (len : ns.length ≤ sizeLine)
    (pr : ∀ H : Hp, Only H → SqL K H a (ns.map V.int) → sp [.ref a] H (fun v _ => v = .bl true) fun _ _ _ => False) (noX : ∀ H e s', CX [] H s1 (fun _ _ _ => False) e s' → False) :
    codeAny (model P w) callerA (.call (.ref fa) ⟨[.ref a], []⟩) (Good s1) s1 := by
  have rv := vals_ints its
  cases hk : K.lookup a with
  | some ob =>
    have e := inK a ob hk
    rw [lst] at e
    cases e
    have on : Only fun _ => none := fun _ => .inl rfl
    refine law_from (H := fun _ => none) F hbind inK nsG nsB bb lim g0 hr on ?_ (fun b z => absurd rfl z) (fun z => absurd rfl z) lst (pr _ on ?_) noX
    · intro b u z
      have z' : (none : Option HO) = some u := z
      cases z'
    · right
      refine ⟨_, vs.toArray, _, hk, rfl, rfl, rfl, ?_, ?_⟩
      · rw [List.size_toArray, its.length]
        exact len
      · simpa using rv
  | none =>
    let O : HO := .frz { cls := .type "list", data := .seq vs.toArray } (.lst (ns.map V.int))
    have at_ : (fun b => if b = a then some O else none : Hp) a = some O := if_pos rfl
    have off : ∀ b, b ≠ a → (fun b => if b = a then some O else none : Hp) b = none := fun b hb => if_neg hb
    have on : Only (fun b => if b = a then some O else none) := fun b => by
      by_cases hb : b = a
      · subst hb
        exact .inr ⟨_, _, at_⟩
      · exact .inl (off b hb)
    refine law_from (H := fun b => if b = a then some O else none) F hbind inK nsG nsB bb lim g0 hr on ?_ ?_ (fun _ => hk) lst (pr _ on (.inl (.inr ⟨_, at_⟩))) noX
    · intro b u z
      by_cases hb : b = a
      · subst hb
        have z' := at_.symm.trans z
        cases z'
        exact ⟨lst, by rw [List.length_map]; exact len, vs, _, rv, lst⟩
      · have z' := (off b hb).symm.trans z
        cases z'
    · intro b z
      by_cases hb : b = a
      · exact hb
      · exact absurd (off b hb) z
end
/-! ### the law's body: the pen first -/
def spPen (K : PySem.W.Frag) (T : List (Addr × Str)) : Sp := fun vs H Q _ => ∃ (s : Addr) (ns : List Int), vs = [.ref s] ∧ SqL K H s (ns.map V.int) ∧ ns.length ≤ 63 ∧ LamX.Tabs T H ∧
  ∀ a l ms H', Same H H' → H a = none → H l = none → a ≠ l → Pen a l ms T penLine H' → Q (.ref a) H'
def spLaw (K : PySem.W.Frag) (T : List (Addr × Str)) : Sp := fun vs H Q _ => ∃ (s : Addr) (ns : List Int), vs = [.ref s] ∧ SqL K H s (ns.map V.int) ∧ ns.length ≤ 63 ∧ LamX.Tabs T H ∧ ∀ H', Q (.bl true) H'
theorem tabs_nil {H : Hp} : LamX.Tabs [] H := fun p hp => by cases hp
end
/-- the slots behind the first statement: the pen in slot 1 -/
def gam1 (m : Nat) : List Sl := .un :: .da .pen :: List.replicate m .un
theorem law_body {K : PySem.W.Frag} {mg : Str → Option Value} {T : List (Addr × Str)} {N : List Str} {m : Nat} (hN : N.length = m + 2) {tr : TS} {n : Nat} (hn : n ≤ penLine)
    (hw : ∀ c : Fc, c.K = K → c.mg = mg → c.T = T → c.er = none → c.E = E0 → Ws c (gam1 m) ⟨n, []⟩ tr { nx := fun _ _ => False, rt := fun d _ => d = .bl true }) {vs : List V} {H : Hp} {Q : VK} {E : XK} (h : spLaw K T vs H Q E) :
    tSeq (tAsg (tCB (fun vs H Q => spPen K T vs H Q E0) (tCons (tVar 0) tNil)) (gName 1)) tr { nx := fun _ H' => Q .non H', rt := Q } (L2.start N vs) H := by
  obtain ⟨s, ns, rfl, hs, hl, hT, hQ⟩ := h
  have e0 : (L2.start N [.ref s]) = some (.ref s) :: none :: List.replicate m none := by
    unfold L2.start
    rw [hN]
    show some (V.ref s) :: List.replicate (m + 2 - 1) none = _
    rw [show m + 2 - 1 = m + 1 by omega, List.replicate_succ]
  rw [e0]
  refine ⟨.ref s, rfl, s, ns, rfl, hs, hl, hT, fun a l ms H' sm ha hl' nal pn => ?_⟩
  have pl := (pn.less hn)
  have L : Lay (⟨K, mg, a, l, ms, T, none, {}⟩ : Wc) ⟨n, []⟩ H' := {
    pen := pl
    pl := fun z => by
      rcases z with z | z | z
      · exact nal z.symm
      · exact absurd z (by simp)
      · exact absurd z (by simp)
    len := rfl
    nd := by simp
    na := ⟨by simp, by simp⟩
    dj := fun p h => absurd h (by simp)
    lv := fun p h => absurd h (by simp)
    cel := fun i d p h => by simp at h }
  refine hw ⟨⟨K, mg, a, l, ms, T, none, {}⟩, E0, fun _ _ _ => False⟩ rfl rfl rfl rfl rfl {} ⟨H', {}, m + 2⟩ _ H' ?_ _ ?_
  · exact {
      len := by simp [gam1]
      gl := by simp [gam1]
      lay := L
      sx := Sx.refl
      aps := fun _ h => h
      ex := fun _ _ _ _ _ _ _ _ _ _ _ _ _ _ _ z => z
      dat := fun i d q => by
        match i, q with
        | 0, q => cases q
        | 1, q =>
          cases q
          exact ⟨_, rfl, .pen⟩
        | i + 2, q =>
          exfalso
          have q' : (List.replicate m Sl.un)[i]? = some (Sl.da d) := q
          rw [List.getElem?_replicate] at q'
          split at q' <;> cases q' }
  · refine ⟨fun _ _ _ _ _ _ z => z.elim, fun m' v H2 d n' _ da q => ?_, fun _ _ _ _ _ _ z => z.elim, fun _ _ _ _ _ _ z => z.elim⟩
    have q' : d = .bl true := q
    subst q'
    cases da
    exact hQ H2
/-! ### the pen's places -/
theorem r2_of {c : Fc} {n : Cs} {r : R2} {d1 d2 : Dt} {k : Dt → Prop} (h : ∀ y, R2D (c.at_ y) n.n r d1 d2 k) : R2V c n r d1 d2 k := by
  intro y H x z L h1 h2 Q q
  exact h y _ H x z L.live ⟨.inl rfl, L.pl, L.pen⟩ h1 h2 Q q
theorem r1_of {c : Fc} {n : Cs} {r : V → Hp → VK → Prop} {d1 : Dt} {k : Dt → Prop} (h : ∀ y, R1D (c.at_ y) r d1 k) : R1V c n r d1 k := by
  intro y H x L h1 Q q
  exact h y _ H x L.live (.inl rfl) h1 Q q
theorem rp_of {c : Fc} {n : Cs} {r : List V → Hp → VK → Prop} {ds : List Dt} {k : Dt → Prop} (h : ∀ y, RCD (c.at_ y) r ds n.n fun d _ => k d) : RPV c n r ds k := by
  intro y H vs L h1 Q q
  exact h y _ H vs L.live (.inl rfl) h1 Q q
section
variable {c : Fc} {n : Nat} {k : Dt → Prop} {Γ : List Sl} {N : Nd} {te : TE}
theorem r_ixP2 (h : ∀ r : Int, k (.int r)) : R2D c n (rIx c.K) .pen (.int 2) k := by
  intro av H x y lv pa a b Q q
  cases a; cases b
  obtain ⟨_, _, i, r, h1, h2, _⟩ := pa
  exact .inl ⟨_, _, 2, .int r, rfl, rfl, SqL.of h1, rfl, q _ H _ (Same.refl H) (.int r) (h r)⟩
theorem r_ixP1 (h : ∀ i : Int, 0 ≤ i → i + n ≤ 4194304 → k (.int i)) : R2D c n (rIx c.K) .pen (.int 1) k := by
  intro av H x y lv pa a b Q q
  cases a; cases b
  obtain ⟨_, _, i, r, h1, h2, _, _, h3, h4⟩ := pa
  exact .inl ⟨_, _, 1, .int i, rfl, rfl, SqL.of h1, rfl, q _ H _ (Same.refl H) (.int i) (h i h3 h4.1)⟩
theorem r_ixP0 (h : c.ns.length ≤ 63 → k (.lst (c.ns.map Dt.int))) : R2D c n (rIx c.K) .pen (.int 0) k := by
  intro av H x y lv pa a b Q q
  cases a; cases b
  obtain ⟨_, nl, i, r, h1, h2, h5, h6, h3, h4⟩ := pa
  exact .inl ⟨_, _, 0, .ref c.l, rfl, rfl, SqL.of h1, rfl, q _ H _ (Same.refl H) (.lst nl h2 (DaAll.ofInts c.ns)) (h h6)⟩
end
section
variable {c : Fc} {n : Cs} {Γ : List Sl} {N : Nd} {te : TE}
/-- the pen is turned -/
theorem SS.penned {ρ : Rt} {σ : L2.St} {H : Hp} {n' : Cs} (S : SS c ρ Γ n σ H) {u : HO} (p : Pen c.a c.l c.ns c.T n'.n (upd H c.a u)) (hs : n'.s = n.s) : SS c ρ Γ n' σ (upd H c.a u) := by
  have x : Sx c.a c.y H c.y (upd H c.a u) := ⟨List.prefix_refl _, fun _ h => .inl h, fun _ h => .inl h, fun b o hb _ e _ => by rw [upd_ne hb]; exact e⟩
  have kp : Kp c.av H (upd H c.a u) := x.kp
  have L : Lay c.toWc n' (upd H c.a u) := {
    pen := p
    pl := S.lay.pl
    len := by rw [hs]; exact S.lay.len
    nd := S.lay.nd
    na := S.lay.na
    dj := S.lay.dj
    lv := fun q h => by
      rw [upd_ne (show q ≠ c.a from fun z => S.lay.na.2 (z ▸ h))]
      exact S.lay.lv q h
    cel := fun i d q h1 h2 => by
      rw [hs] at h1
      obtain ⟨vs, h3, h4⟩ := S.lay.cel i d q h1 h2
      exact ⟨vs, h3.to fun o e _ => by rw [upd_ne (show q ≠ c.a from fun z => S.lay.na.1 (z ▸ List.mem_of_getElem? h2))]; exact e, h4.keep kp⟩ }
  exact S.go (y := c.y) x L fun _ z => z
theorem w_setP2 {j : Nat} (hj : Γ[j]? = some (Sl.da .pen)) (h : We c Γ n te fun d m => ∃ r : Int, d = .int r ∧ N.nx Γ m) : Ws c Γ n (tAsg te (gSub (tVar j) (tC (.int 2)) rSetL)) N := by
  intro y ρ σ H S D L
  refine h y ρ σ H S _ fun m v H' d n' S' x h' kk => ?_
  obtain ⟨r, rfl, kk⟩ := kk
  cases h'
  obtain ⟨v, e1, e2⟩ := S'.dat j _ hj
  cases e2
  obtain ⟨i, r0, h1, h2, h3, h4, h5, h6⟩ := S'.lay.pen
  refine ⟨_, e1, c.a, _, 2, 2, rfl, rfl, h1, rfl, ?_⟩
  refine L.nx _ Γ n' σ _ (S'.penned (n' := n') ⟨i, r, ?_, ?_, h3, h4, h5, h6.1, Tabs.upd h6.2 h1 rfl rfl⟩ rfl) kk
  · exact upd_same
  · rw [upd_ne h3]; exact h2
theorem w_setP1 {j : Nat} (hj : Γ[j]? = some (Sl.da .pen)) (h : We c Γ n te fun d m => ∃ (i : Int) (m' : Nat), d = .int i ∧ 0 ≤ i ∧ i + m' ≤ 4194304 ∧ N.nx Γ ⟨m', m.s⟩) : Ws c Γ n (tAsg te (gSub (tVar j) (tC (.int 1)) rSetL)) N := by
  intro y ρ σ H S D L
  refine h y ρ σ H S _ fun m v H' d n' S' x h' kk => ?_
  obtain ⟨i, m', rfl, hi, hm, kk⟩ := kk
  cases h'
  obtain ⟨v, e1, e2⟩ := S'.dat j _ hj
  cases e2
  obtain ⟨i0, r0, h1, h2, h3, h4, h5, h6⟩ := S'.lay.pen
  refine ⟨_, e1, c.a, _, 1, 1, rfl, rfl, h1, rfl, ?_⟩
  refine L.nx _ Γ ⟨m', n'.s⟩ σ _ (S'.penned (n' := ⟨m', n'.s⟩) ⟨i, r0, ?_, ?_, h3, h4, hi, hm, Tabs.upd h6.2 h1 rfl rfl⟩ rfl) kk
  · exact upd_same
  · rw [upd_ne h3]; exact h2
end
/-! ### the pen is made -/
def t_pen (K : PySem.W.Frag) : TS := tRet (tLst (tCons (tCB (rList K) (tCons (tSl (rSl K) (tVar 0) tNoPart (tPart (tC (.int 63)))) tNil)) (tCons (tC (.int 0)) (tCons (tC (.int 0)) tNil))))
theorem cut_ints (ns : List Int) (lo hi : Option Int) : cutV (ns.map V.int) lo hi = (cutG ns lo hi).map V.int := by
  unfold cutV cutG
  rw [List.length_map, List.map_take, List.map_drop]
theorem pen_made {K : PySem.W.Frag} {T : List (Addr × Str)} {vs : List V} {H : Hp} {Q : VK} {E : XK} (h : spPen K T vs H Q E) : t_pen K { nx := fun _ H' => Q .non H', rt := Q } (L2.start ["_law_script"] vs) H := by
  obtain ⟨s, ns, rfl, hs, hl, hT, hQ⟩ := h
  refine ⟨.ref s, rfl, 63, rfl, .inl ⟨s, _, rfl, hs, fun p hp => ?_⟩⟩
  refine ⟨p, _, rfl, .inl (SqL.of upd_same), fun l hl2 => ?_⟩
  refine ⟨szl rfl, fun a ha => ?_⟩
  have hlp : l ≠ p := fun z => by rw [z, upd_same] at hl2; cases hl2
  have hal : a ≠ l := fun z => by rw [z, upd_same] at ha; cases ha
  have e1 : H l = none := by rwa [upd_ne hlp] at hl2
  have e2 : H a = none := by
    rw [upd_ne hal] at ha
    have hap : a ≠ p := fun z => by rw [z, upd_same] at ha; cases ha
    rwa [upd_ne hap] at ha
  have sm : ∀ (u1 u2 u3 : HO), Same H (upd (upd (upd H p u1) l u2) a u3) := fun u1 u2 u3 b o e => by
    rw [upd_ne (ne_of_none e e2), upd_ne (ne_of_none e e1), upd_ne (ne_of_none e hp)]
    exact e
  refine hQ a l (cutG ns none (some 63)) _ (sm _ _ _) e2 e1 hal ?_
  refine ⟨0, 0, upd_same, ?_, hal.symm, ?_, Int.le_refl _, by decide, hT.ext (sm _ _ _)⟩
  · rw [upd_ne hal.symm, upd_same, cut_ints]
  · unfold cutG
    rw [List.length_take, List.length_drop]
    omega
/-! ### a draw -/
theorem w_cut {c : Fc} {Γ : List Sl} {n : Cs} {t u : TS} {M : Nd} (P : List Sl → Cs → Prop) (h : Ws c Γ n t { M with nx := P }) (h2 : ∀ Γ' n', P Γ' n' → Ws c Γ' n' u M) : Ws c Γ n (tSeq t u) M :=
  w_seq (h.mono (fun Γ m q => h2 Γ m q) (fun _ _ q => q) (fun _ _ q => q) fun _ _ q => q)
/-- what is wanted behind a draw's body -/
def ndD (m : Int) (n : Cs) : Nd := { nx := fun _ _ => False, rt := fun d n' => (∃ i : Int, d = .int i ∧ 0 ≤ i ∧ i < m) ∧ n.n ≤ n'.n ∧ n'.s = n.s }
def drawF (ds : List Dt) : Ev Dt := match ds with
  | [.pen, .int m] => .draw m
  | _ => .stuck
theorem draw_ns {ds : List Dt} {n : Cs} (h : NS (drawF ds) n) : ∃ m : Int, ds = [.pen, .int m] ∧ 0 < m ∧ m < 1073741824 ∧ drawF ds = Ev.draw m ∧ 0 < n.n := by
  obtain ⟨l, hl⟩ := lens n.n
  obtain ⟨x, e⟩ := h l hl
  unfold drawF at e
  split at e
  · rename_i m
    unfold Ev.draw at e
    split at e
    · rename_i hm
      refine ⟨m, rfl, hm.1, hm.2, rfl, ?_⟩
      cases l with
      | nil => cases e
      | cons x l => simp at hl; omega
    · cases e
  · cases e
theorem draw_calm {ds : List Dt} {n m' : Cs} {cn : Str} {es : List (Str × Dt)} (h : NS (drawF ds) n) (z : Hit (drawF ds) n (.ex cn es) m') : False := by
  obtain ⟨m, rfl, h1, h2, e, hn⟩ := draw_ns h
  rw [e] at z
  obtain ⟨u, hu, q⟩ := z
  obtain ⟨l, hl⟩ := lens m'.n
  have q := q l hl
  unfold Ev.draw at q
  rw [if_pos ⟨h1, h2⟩] at q
  split at q <;> cases q
section
variable {P : Program} {w : World} {K : PySem.W.Frag} {mg : Str → Option Value} {T : List (Addr × Str)} {base : Heap} {x qual : Str} {params : Arguments} {body : List Stmt} {scope : Scope} {dvs : List V} {kws : List (Str × V)} {f : Addr} {fd : FuncData}
theorem okDraw {b : Bool} {N ps : List Str} {k : Nat} (Fd : FunD K x qual params body scope dvs kws f fd) (sc : FnScope N ps scope) (hps : ps.length = 2)
    (hbody : ∀ (cdv : Value) (A : Around) (outer : List Env) (s : Shared) (H : Hp) (E : XK), RoomG b k (A.deeper (envOfC qual scope s.heap.objs.size f cdv)) →
      ∃ t, PSs (cxOf CX0 P w K mg base N qual scope f cdv A outer s H E).nox body t ∧ ∀ (c : Fc), c.K = K → c.mg = mg → c.T = T → ∀ (m : Int) (n : Nat) (s : List Dt), 0 < m → m < 1073741824 → Ws c (gam N [.pen, .int m]) ⟨n + 1, s⟩ t (ndD m ⟨n, s⟩)) :
    FnG b P w K mg base CX0 (k + 1) f fd ps (spE K mg T drawF) := by
  refine okE0 Fd sc (fun ds n h => by obtain ⟨m, rfl, _⟩ := draw_ns h; exact hps.symm) (fun cdv A outer s H E hr => ?_) fun ds n h cn es m' z => draw_calm h z
  obtain ⟨t, ht, hw⟩ := hbody cdv A outer s H E hr
  refine ⟨t, ht, fun c hK hm hT _ _ ds n hns _ => ?_⟩
  obtain ⟨m, rfl, h1, h2, hF, hn⟩ := draw_ns hns
  obtain ⟨n0, s0⟩ := n
  obtain ⟨n', rfl⟩ : ∃ n', n0 = n' + 1 := ⟨n0 - 1, by
    have : 0 < n0 := hn
    omega⟩
  intro y ρ σ H' S D L
  refine hw c hK hm hT m n' s0 h1 h2 y ρ σ H' S D ⟨fun _ _ _ _ _ _ z => z.elim, fun mm v H2 d n2 o da q => ?_, fun _ _ _ _ _ _ z => z.elim, fun _ _ _ _ _ _ z => z.elim⟩
  obtain ⟨⟨i, rfl, h0, hi⟩, hle, hs⟩ := q
  have o2 : Out c ρ mm ⟨n', s0⟩ H2 := ⟨o.sx, by
    refine Lay.less o.lay (n' := ⟨n', s0⟩) ?_ hle
    cases n2
    cases hs
    rfl⟩
  refine L.rt mm v H2 (.int i) ⟨n', s0⟩ o2 da ⟨[i.toNat], by simp; omega, fun l _ => ?_⟩
  rw [hF]
  show (if 0 < m ∧ m < 1073741824 then _ else none) = _
  rw [if_pos ⟨h1, h2⟩]
  show some (Re.ok (Dt.int (((i.toNat : Nat) : Int) % m)), (l, s0)) = _
  rw [Int.toNat_of_nonneg h0, Int.emod_eq_of_lt h0 hi]
end
end Pb
namespace Pb
open PySem PySem.Spec PyProof.Rows L2

/-! #### S -/
section
open PySem.W PySem.Calls PySem.HandSPX
/-! ### an own error over ValueError whose __init__ says super().__init__(f) and self.f = f -/
/-- what the written part says of the class at C and of its __init__ at fI; f its field -/
structure SupT (P : Program) (K : Frag) (mg : Str → Option Value) (C fI : Addr) (f : Str) : Prop where
  cls : ∃ nm q N bs bm sn sub ab col dd k0 k1 k2 k3 k5, K.lookup C = some (excClassObj nm q C N bs bm true sn sub ab col dd k0 k1 k2 k3 k5 "ValueError.__new__") ∧ refsVE bm = true
  sa : findIn K (.ref C) "__setattr__" = some (some (.builtin "object.__setattr__"))
  noF : findIn K (.ref C) f = some none
  iC : findIn K (.ref C) "__init__" = some (some (.ref fI))
  tI : typeIn K (.ref fI) = some (.type "function")
  kC : keepIn K (.ref C) = true
  exC : subIn K (.ref C) (.type "BaseException") = some true
  veC : subIn K (.ref C) (.type "ValueError") = some true
  tyC : typeIn K (.ref C) = some (.type "type")
  me : mroIn K C (.ref C) = some true
  up : ks_superIn K C C "__init__" = some (some (.builtin "ValueError.__init__"))
  op : nsIn K cStatics "thirdparty.any" = some none
  noS : mg "super" = none
  top : (P.main.scope.names.lookup ("super" : Str)).isSome = false
  fn : ∃ (oc : Value) (od : Option Addr) (qual : Str) (params : Arguments) (scope : Scope) (dV kV doc pm : Value) (an : Option Addr) (cda cc : Addr) (ct : Value) (osl : Array (Option Value)) (a1 a2 a3 a4 a5 a6 b1 b2 b3 b4 : Pos) (ar : Arg)
    (ccl : Value) (cdd : Option Addr) (vs : Array Value) (ccs : Array (Option Value)) (file : Str) (tf : Tok) (cl : Value) (cld : Option Addr) (csl : Array (Option Value)),
    K.lookup fI = some ⟨oc, od, .func (ksFn "__init__" qual params [.Expr (.Call (.Attribute (.Call (.Name "super" a1) [] [] a2) "__init__" a3) [.Name f a4] [] a5) a6, .Assign [.Attribute (.Name "self" b1) f b2] (.Name f b3) b4] scope dV kV doc pm an (.ref cda) ct cc), osl⟩ ∧
    codeIn K (.ref cda) qual = true ∧ K.lookup cda = some ⟨ccl, cdd, .fields vs, ccs⟩ ∧ vs[2]? = some (.str file tf) ∧ ((P.main.file : Str) == file) = true ∧ K.lookup cc = some ⟨cl, cld, .cell (some (.ref C)), csl⟩ ∧
    (params.posonlyargs ++ params.args).head? = some ar ∧ ar.arg = "self" ∧ scope.kind = .function ∧ scope.isCoroutine = false ∧ scope.isGenerator = false ∧ (∀ x ∈ scope.names, x.2 ≠ .cell) ∧ scope.names.lookup ("self" : Str) = some .local ∧ scope.names.lookup f = some .local ∧
    scope.names.lookup ("__class__" : Str) = some .free ∧ scope.names.lookup ("super" : Str) = some .globalImplicit ∧ f ≠ "self" ∧ (f == ("__debug__" : Str)) = false ∧
    (∀ (s : Shared) (x v : Value), BindsTo s (ksFn "__init__" qual params [.Expr (.Call (.Attribute (.Call (.Name "super" a1) [] [] a2) "__init__" a3) [.Name f a4] [] a5) a6, .Assign [.Attribute (.Name "self" b1) f b2] (.Name f b3) b4] scope dV kV doc pm an (.ref cda) ct cc) ⟨[x, v], []⟩ [("self", x), (f, v)]) ∧
    (∀ env : Env, env.scope = scope → ∃ pl : Sem Bool, eval (.Call (.Attribute (.Call (.Name "super" a1) [] [] a2) "__init__" a3) [.Name f a4] [] a5) env = (do
      let ov ← attributeBase (.Call (.Name "super" a1) [] [] a2) "__init__" env (eval (.Call (.Name "super" a1) [] [] a2) env)
      standAt a3.atName
      let (h, first) ← holding [ov] (getMethod ov "__init__" pl)
      callWith a5 h first (backTo a5 (starEach [.Name f a4] env)) [])) ∧
    (∀ env : Env, env.scope = scope → swapsWith (.Name f b3) (some (.Attribute (.Name "self" b1) f b2)) b4.line env = pure false)
section
variable {prog : Program} {w : World} {A : Around} {E : Value → Shared → Prop} {R : Result → Shared → Prop} {s : Shared} {K : Frag} {mg mb : Str → Option Value} {C fI : Addr} {f : Str}
/-- what __init__ leaves of a fresh error at x -/
structure SupEnd (h h' : Heap) (x C dx t1 : Addr) (f : Str) (v : Value) : Prop where
  keep : ∀ b o, b ≠ x → h.get? b = some o → h'.get? b = some o
  obj : h'.get? x = some { cls := .ref C, dict := some dx, data := .fields #[.ref t1, .none, .none, .none, .bool false, .none] }
  dbig : h.objs.size ≤ dx
  dne : dx ≠ x
  ns : h'.Ns1 dx (fun y => if y = f then some v else none)
theorem one_fits (v : Value) : [v].length ≤ sizeLine := by
  rw [sizeLine_eq]
  exact (by decide : 1 ≤ 16777216)
theorem sup_init (T : SupT prog K mg C fI f) {x t0 : Addr} {v : Value} (X : K.In s.heap) (hlim : s.heap.NoLimit) (hG : s.heap.Ns mainGlobals mg) (hB : s.heap.Ns builtinsNs mb) (hb : mb "super" = some (.type "super")) (hx : s.heap.get? x = some (excO C t0)) (hnx : K.lookup x = none) (hroom : A.depth < recursionLimit)
    (hq : ∀ h' tk dx t1, SupEnd s.heap h' x C dx t1 f v → R (.ok (.ret .none)) { s with heap := h', toks := tk }) :
    codeAny (model prog w) A (.call (.ref fI) ⟨[.ref x, v], []⟩) R s := by
  obtain ⟨oc, od, qual, params, scope, dV, kV, doc, pm, an, cda, cc, ct, osl, a1, a2, a3, a4, a5, a6, b1, b2, b3, b4, ar, ccl, cdd, vs, ccs, file, tf, cl, cld, csl, ho, hcd, hcode, hvs, hfile, hcell, hp, har, hk, hco, hgen, hnc, hself, hfl, hkc, hks, hne, hdb, hbind, hev, hsw⟩ := T.fn
  obtain ⟨nm, q, N, bs, bm, sn, sub, ab, col, dd, k0, k1, k2, k3, k5, hC, hbm⟩ := T.cls
  have hcl : clsIn K C = some { name := nm, bases := bs, mro := .ref C :: bm, ns := N, qualname := q, hasDict := true, slotNames := sn, subclasses := sub, abstract := ab, collection := col, hasDel := false } := by unfold clsIn; rw [hC] <;> rfl
  refine ks_codeAny_call_defAt (binds := [("self", .ref x), (f, v)]) hroom (X _ _ ho) rfl hlim (codeRec_of X hcd) rfl (hbind s (.ref x) v) hnc ?_ (fun h₁ hns k => ?_) hco hgen hk
  · intro y hy
    rcases List.mem_cons.mp hy with rfl | hy
    · exact hself
    · rcases List.mem_cons.mp hy with rfl | hy
      · exact hfl
      · cases hy
  have hxL : s.heap.objs.size ≠ x := Nat.ne_of_gt (Heap.lt_size hx)
  have hx₁ := k _ _ hx
  have X₁ : K.In h₁ := X.keeps k
  have G₁ := hG.keeps k
  have B₁ := hB.keeps k
  obtain ⟨hp0, g, d, t, os⟩ := s
  obtain ⟨pl, hpl⟩ := hev (callEnv (ksFn "__init__" qual params _ scope dV kV doc pm an (.ref cda) ct cc) hp0.objs.size fI) rfl
  refine ks_wpAt_execs_cons (ks_wpAt_Expr_any (ks_wpAt_MethodCall (pl := pl) ?_ hpl) (by show interactive (callEnv _ _ _) = false; unfold interactive callEnv newEnv; simp [hk]))
  obtain ⟨oD, hD1, hD2⟩ : ∃ oD, h₁.get? C = some oD ∧ oD.data = .cls { name := nm, bases := bs, mro := .ref C :: bm, ns := N, qualname := q, hasDict := true, slotNames := sn, subclasses := sub, abstract := ab, collection := col, hasDel := false } := ⟨_, X₁ _ _ hC, rfl⟩
  refine ks_wpAt_super_base hks hkc (by decide) rfl (X₁ _ _ ho) rfl hp rfl (X₁ _ _ hcode) rfl hvs hfile T.top ?_
  refine ks_loadName_global hk hks (loadGlobal_builtin G₁ T.noS B₁ hb ⟨rfl, ?_⟩)
  refine wpAny_loadName_free hk hkc rfl ⟨_, X₁ _ _ hcell, rfl⟩ ?_
  rw [har]
  refine wpAny_loadName_local hk hself hns (v := .ref x) ?_ ?_
  · show List.lookup ("self" : Str) [(f, v), ("self", .ref x)] = _
    have e1 : (("self" : Str) == f) = false := by simpa using fun z => hne z.symm
    simp [List.lookup, e1]
  refine ks_wpAny_isType_cls hD1 hD2 ⟨rfl, ?_⟩
  refine ks_wpAny_call_super hD1 hD2 hx₁ rfl (fun c e => by cases e) (looks_mroIn X₁ T.me) (fun h₂ hso k₂ => ?_)
  have X₂ : K.In h₂ := X₁.keeps k₂
  have hx₂ := k₂ _ _ hx₁
  have I₂ : InstAt h₂ x (excO C t0) C none := ⟨hx₂, rfl, rfl, trivial⟩
  have hI : Looks (model prog w) h₂ (isInstance (.ref x) (.type "ValueError")) true := I₂.type.andThen (looks_subIn X₂ T.veC)
  have hup : alongIn K "__init__" (((.ref C :: bm).dropWhile (· != .ref C)).drop 1) = some (some (.builtin "ValueError.__init__")) := by
    have z := T.up
    unfold ks_superIn at z
    rw [hcl] at z
    exact z
  refine kxs_getMethod kxs_ValueError hso (looks_opaque X₂ T.op) (l₀ := .ref C :: bm) ?_ rfl X₂ hup hI (ks_ne X₂ I₂ hcl) (by decide) ?_
  · exact fun A Q E s k q => wpAny_bind ((looks_clsIn X₂ hcl) A _ E s k (wpAny_pure q))
  have k₃ : ∀ b o, h₂.get? b = some o → (h₂.push (kxs_mw "ValueError.__init__" x)).get? b = some o := fun b o e => Heap.get?_push_of_some _ e
  have kk : ∀ b o, h₁.get? b = some o → (h₂.push (kxs_mw "ValueError.__init__" x)).get? b = some o := fun b o e => k₃ b o (k₂ b o e)
  have hu : (h₂.push (kxs_mw "ValueError.__init__" x)).get? h₂.objs.size = some (kxs_mw "ValueError.__init__" x) := Heap.get?_push_at rfl rfl
  have hns₃ := hns.keeps kk
  have hx₃ := kk _ _ hx₁
  have X₃ : K.In (h₂.push (kxs_mw "ValueError.__init__" x)) := X₁.keeps kk
  have mf : List.lookup f [(f, v), (("self" : Str), .ref x)] = some v := by simp [List.lookup]
  refine kxs_callWith (i := "ValueError.__init__") (x := x) rfl (evalArgs_plain ?_)
  refine Calls.spliced_cons (wpAny_Name (wpAny_loadName_local hk hfl hns₃ mf ?_) hdb)
  refine Calls.spliced_nil ⟨hu, ?_⟩
  refine wpAny_call (codeAny_of_tree ?_)
  show wpAny _ _ (callAny (.ref h₂.objs.size) ⟨[v], []⟩) _ _ _
  simp only [callAny]
  refine wpAny_bind (wpAny_load hu ?_)
  have hmw : (Value.type "method-wrapper" == Value.type "method" || Value.type "method-wrapper" == Value.type "builtin_function_or_method" || Value.type "method-wrapper" == Value.type "method-wrapper") = true := by decide
  simp only [kxs_mw, hmw, if_true]
  refine KFB.if_so (by decide) ?_
  refine wpAny_bind (check_bound_init F.excBase_ValueError.toExcCallFacts (X₃ _ _ hC) hx₃ rfl ?_)
  refine wpAny_bind (wpAny_pure (wpAny_pure ?_))
  refine ⟨plainId_quiet F.excBase_ValueError.init.plain _, codeAny_builtin F.excBase_ValueError.initEntry ?_⟩
  refine exc_init_tree (cls := .ref C) (t0 := t0) (dv := none) (c2 := .none) (c3 := .none) (b4 := .bool false) hx₃ (one_fits v) fun h₄ k₄ hx₄ ht₄ => ?_
  have X₄ : K.In h₄ := fun a o e => k₄ a o (fun z => by rw [z, hnx] at e; cases e) (X₃ a o e)
  have hns₄ : h₄.Ns hp0.objs.size (fun y => List.lookup y [(f, v), (("self" : Str), .ref x)]) := by
    obtain ⟨oL, es, ep, hL, r⟩ := hns₃
    exact ⟨oL, es, ep, k₄ _ _ hxL hL, r⟩
  have ms : List.lookup ("self" : Str) [(f, v), (("self" : Str), .ref x)] = some (.ref x) := by
    have e1 : (("self" : Str) == f) = false := by simpa using fun z => hne z.symm
    simp [List.lookup, e1]
  refine wpAt_of_wpAny (wpAny_execs_cons (plainObj_wpAny_Assign_Attribute ?_ (hsw _ rfl)))
  refine wpAny_Name (wpAny_loadName_local hk hfl hns₄ mf ?_) hdb
  refine wpAny_Name (wpAny_loadName_local hk hself hns₄ ms ?_) (by decide)
  refine set_plain X₄ (ox := excO C (h₂.push (kxs_mw "ValueError.__init__" x)).objs.size) (od := none) ⟨hx₄, rfl, rfl, trivial⟩ T.sa ?_
  refine exc_osa X₄ hx₄ hcl (show refsVE (.ref C :: bm) = true from hbm) rfl T.noF (fun h₅ tk₅ dx k₅ dn dne hx₅ hn₅ => ?_)
  have lt1 : hp0.objs.size < h₁.objs.size := hns.lt
  have lt2 : hp0.objs.size ≤ dx := by
    have a : hp0.objs.size < h₄.objs.size := hns₄.lt
    exact Nat.le_of_lt (Nat.lt_of_lt_of_le a dn)
  refine wpAny_execs_nil (hq h₅ _ dx _ ⟨fun b o hb e => k₅ b o hb (k₄ b o hb (kk b o (k b o e))), hx₅, lt2, dne, hn₅⟩)
/-- a made error: at e, its dict at d -/
structure SupMade (h h' : Heap) (e C d : Addr) (f : Str) (v : Value) : Prop where
  keep : ∀ b o, h.get? b = some o → h'.get? b = some o
  new : h.objs.size ≤ e
  obj : ∃ t1, h'.get? e = some { cls := .ref C, dict := some d, data := .fields #[.ref t1, .none, .none, .none, .bool false, .none] }
  dbig : h.objs.size ≤ d
  dne : d ≠ e
  ns : h'.Ns1 d (fun y => if y = f then some v else none)
theorem sup_made (T : SupT prog K mg C fI f) {v : Value} (X : K.In s.heap) (hlim : s.heap.NoLimit) (hG : s.heap.Ns mainGlobals mg) (hB : s.heap.Ns builtinsNs mb) (hb : mb "super" = some (.type "super")) (hroom : A.depth + 1 < recursionLimit)
    (hq : ∀ h' tk e d, SupMade s.heap h' e C d f v → R (.ok (.ret (.ref e))) { s with heap := h', toks := tk }) :
    codeAny (model prog w) A (.call (.ref C) ⟨[v], []⟩) R s := by
  obtain ⟨nm, q, N, bs, bm, sn, sub, ab, col, dd, k0, k1, k2, k3, k5, hC, hbm⟩ := T.cls
  obtain ⟨hp, g, dr, tk, os⟩ := s
  have k : ∀ b o, hp.get? b = some o → ((hp.push (kdv_tup [v])).push (excO C hp.objs.size)).get? b = some o := fun b o e => Heap.get?_push_of_some _ (Heap.get?_push_of_some _ e)
  have hget : ((hp.push (kdv_tup [v])).push (excO C hp.objs.size)).get? (hp.objs.size + 1) = some (excO C hp.objs.size) := by heap_get
  have hnx : K.lookup (hp.objs.size + 1) = none := by
    cases e : K.lookup (hp.objs.size + 1) with
    | none => rfl
    | some o =>
      have z : hp.get? (hp.objs.size + 1) = some o := X _ _ e
      exact absurd (Nat.lt_of_succ_lt (Heap.lt_size z)) (Nat.lt_irrefl _)
  refine call_own F.excBase_ValueError (fun X => refsVE_contains X bm hbm) (X _ _ hC) (looks_findIn X T.iC) (fun self => bind_fn X self T.tI) (one_fits v) ?_
  refine sup_init (s := ⟨(hp.push (kdv_tup [v])).push (excO C hp.objs.size), g, dr, tk, os⟩) T (X.keeps k) (hlim.keeps k) (hG.keeps k) (hB.keeps k) hb hget hnx ?_ fun h' tk' dx t1 ⟨k', hx, dn, dne, hns⟩ => ?_
  · show A.depth + 1 < recursionLimit
    exact hroom
  · have old : ∀ b o, hp.get? b = some o → h'.get? b = some o := fun b o e => k' b o (Nat.ne_of_lt (Nat.lt_succ_of_lt (Heap.lt_size e))) (k b o e)
    have z : hp.objs.size + 1 + 1 ≤ dx := by
      first
        | (simpa only [Heap.size_push] using dn)
        | exact dn
        | (have q := dn; rw [Heap.size_push, Heap.size_push] at q; exact q)
    exact ⟨rfl, hq h' tk' (hp.objs.size + 1) dx ⟨old, Nat.le_succ _, ⟨t1, hx⟩, Nat.le_trans (Nat.le_trans (Nat.le_succ _) (Nat.le_succ _)) z, dne, hns⟩⟩
end
section
variable {X : Cx} {C fI : Addr} {f x : Str}
theorem relO_one {v : V} {u : Value} (r : RelV v u) (y : Str) : RelO (List.lookup y [(f, v)]) (if y = f then some u else none) := by
  by_cases h : y = f
  · subst h
    rw [if_pos rfl, show List.lookup y [(y, v)] = some v by simp [List.lookup]]
    exact r
  · have e : (y == f) = false := by simpa using h
    rw [if_neg h, show List.lookup y [(f, v)] = none by simp [List.lookup, e]]
    trivial
/-- x(e), made to be raised -/
def tMkS (C : Addr) (f : Str) (ta : TA) : L2.St → Hp → XK → Prop := fun σ H Q => ta σ H fun vs H1 => ∃ v, vs = [v] ∧ ∀ d, H1 d = none → Q (.ref C) (some d) (upd H1 d (.xd [(f, v)]))
theorem pmk_sup {a : Expr} {ta : TA} {p pos : Pos} {k : Nat} (T : SupT X.prog X.K X.mg C fI f) (gC : X.mg x = some (.ref C)) (hr : Room k X.A) (ha : PA X [a] ta) (hg : Gl X x) (hd : (x == ("__debug__" : Str)) = false := by decide)
    (he : starEach (a :: []) X.env = (false, eval a X.env) :: starEach [] X.env := by rfl) (hpl : (backTo pos (starEach [] X.env)).any (·.1) = false := by rfl) :
    PMk X (.Call (.Name x p) [a] [] pos) (tMkS C f ta) := by
  intro pins s σ H Q I h
  refine wpAny_Call_Name_kw (ld_glob I hg gC ?_ hd)
  refine PySem.W.callWith_K (h₀ := X.base) I.ok.mod.kin T.kC (thn (ha.run pos pins s σ H _ I h) fun us s1 hh => ?_) he hpl
  obtain ⟨vs, H1, I1, r1, v, ev, q1⟩ := hh
  subst ev
  refine ⟨I1.kIn, ?_⟩
  cases r1 with
  | cons rv rn =>
    rename_i v' us'
    cases rn
    show wpAny _ _ (call (.ref C) [v']) _ _ _
    have hlim := I1.nolimit
    obtain ⟨mb, hb1, hb2⟩ := I1.mod.blt
    have hG := I1.mod.glob.keeps I1.bk
    have hB := hb1.keeps I1.bk
    have hs : mb "super" = some (.type "super") := (hb2 _ (by decide)).trans PyProof.Rows.Boot.«super»
    obtain ⟨hp, g, dr, tk, os⟩ := s1
    refine wpAny_call (sup_made T I1.kIn hlim hG hB hs (by have := hr.dp; omega) fun h' tk' e d M => ?_)
    show MkP X pins σ Q (.ref e) ⟨h', g, dr, tk', os⟩
    obtain ⟨t1, hoe⟩ := M.obj
    have hns := M.ns
    obtain ⟨G', g1, g2⟩ := restrict h' fun b => decide (b ≠ e)
    have gk : ∀ b, b ≠ e → G'.get? b = h'.get? b := fun b hb => g1 b (decide_eq_true hb)
    have ge : G'.get? e = none := g2 e (by simp)
    have old : ∀ b o, hp.get? b = some o → G'.get? b = some o := fun b o q => (gk b (Nat.ne_of_lt (Nat.lt_of_lt_of_le (Heap.lt_size q) M.new))).trans (M.keep b o q)
    have ob : ObjOk X.prog X.w (upd H1 d (.xd [(f, v)])) G' d (.xd [(f, v)]) := ⟨_, hns.at (fun o q => (gk d M.dne).trans q), fun y => relO_one rv y⟩
    have J : Inv X pins σ (upd H1 d (.xd [(f, v)])) ⟨G', g, dr, tk', os⟩ := I1.laid (t' := tk') old M.dbig ob
    refine ⟨e, _, _, ⟨G', g, dr, tk', os⟩, _, .ref C, some d, rfl, J, fun b o q => ?_, ge, hoe, ⟨rfl, rfl⟩, rfl, rfl, ?_, rfl, I1.bare, raises_own T.exC T.tyC, q1 d (I1.hok.fresh M.dbig)⟩
    · by_cases hb : b = e
      · have q' : G'.get? b = some o := q
        rw [hb, ge] at q'; cases q'
      · exact (gk b hb).symm.trans q
    · rw [upd_ne (Ne.symm M.dne)]
      exact I1.hok.fresh M.new
/-- raise x(e) -/
def tRaiseS (C : Addr) (f : Str) (W : WX) (ta : TA) : TS := fun _ σ H => tMkS C f ta σ H fun cls d H' => W cls d σ H'
theorem ps_raiseS {a : Expr} {ta : TA} {W : WX} {p pos pos2 : Pos} {k : Nat} (hc : X.calm = true) (T : SupT X.prog X.K X.mg C fI f) (gC : X.mg x = some (.ref C)) (hr : Room k X.A) (tk : Takes X W) (ha : PA X [a] ta) (hg : Gl X x := by rfl) (hd : (x == ("__debug__" : Str)) = false := by decide)
    (he : starEach (a :: []) X.env = (false, eval a X.env) :: starEach [] X.env := by rfl) (hpl : (backTo pos (starEach [] X.env)).any (·.1) = false := by rfl) :
    PS X (.Raise (some (.Call (.Name x p) [a] [] pos)) none pos2) (tRaiseS C f W ta) := ps_raise hc tk (pmk_sup T gC hr ha hg hd he hpl)
end
end
/-! #### T -/
section
/-! ### the end of a row whose defs make lambdas: cs tells the makers' code objects and their tables -/
section
variable {P : Program} {w : World} {K : PySem.W.Frag} {mg mb : Str → Option Value} {CX : CXT} {k : Nat} {fa a : Addr} {fd : FuncData} {x : Str} {sp : Sp} {s1 : Shared} {vs : List Value} {ns : List Int} {cs : List (Addr × Addr)}
abbrev tabO : Obj := { cls := .none, data := .fields #[] }
def isTab (cs : List (Addr × Addr)) (b : Addr) : Bool := cs.any fun p => p.2 == b
theorem isTab_of {p : Addr × Addr} (h : p ∈ cs) : isTab cs p.2 = true := List.any_eq_true.mpr ⟨p, h, by simp⟩
theorem isTab_ex {b : Addr} (h : isTab cs b = true) : ∃ p ∈ cs, p.2 = b := by
  obtain ⟨p, hp, e⟩ := List.any_eq_true.mp h
  exact ⟨p, hp, by simpa using e⟩
structure LawT (K : PySem.W.Frag) (mg : Str → Option Value) (cs : List (Addr × Addr)) (h : Heap) : Prop where
  tab : ∀ p ∈ cs, h.get? p.2 = some tabO
  off : ∀ p ∈ cs, K.lookup p.2 = none
  hd : ∀ p ∈ cs, PySem.W.CodeHd h p.1 p.2
  bm : ∃ (bm : Addr) (ob : Obj), mg "__builtins__" = some (.ref bm) ∧ bm ≠ builtinsNs ∧ h.get? bm = some ob ∧ ob.cls = .type "module" ∧ ob.dict = some builtinsNs ∧ ob.data = .plain
theorem lawT_from {H : Hp} (F : ∀ base : Heap, K.In base → base.Ns mainGlobals mg → (∀ p ∈ cs, LamX.TabB base mg p.1 p.2) → FnG true P w K mg base CX k fa fd [x] sp) (hbind : ∀ (s : Shared) (u : Value), BindsTo s fd ⟨[u], []⟩ [(x, u)])
    (L : LawT K mg cs s1.heap) (inK : K.In s1.heap) (nsG : s1.heap.Ns mainGlobals mg) (nsB : s1.heap.Ns builtinsNs mb) (bb : ∀ x : Str, x ≠ "__name__" → mb x = bootBuiltins x) (lim : s1.heap.NoLimit) (g0 : s1.gens = #[])
    (hr : RoomG true k callerA) (only : ∀ b, H b = none ∨ (isTab cs b = true ∧ H b = some (.tbl #[])) ∨ (b = a ∧ ∃ o xs, H b = some (.frz o (.lst xs)))) (ok : HOk P w H s1.heap) (scrK : H a ≠ none → K.lookup a = none)
    (lst : s1.heap.get? a = some { cls := .type "list", data := .seq vs.toArray }) (pr : sp [.ref a] H (fun v _ => v = .bl true) fun _ _ _ => False) (noX : ∀ H e s', CX [] H s1 (fun _ _ _ => False) e s' → False) :
    codeAny (model P w) callerA (.call (.ref fa) ⟨[.ref a], []⟩) (Good s1) s1 := by
  -- an object that is neither the script's list nor an empty table is not tracked
  have plain : ∀ (b : Addr) (ob : Obj), s1.heap.get? b = some ob → (∀ ys n, ob.data ≠ .seq ys n) → ob.data ≠ .fields #[] → H b = none := by
    intro b ob e d1 d2
    rcases only b with z | ⟨z, _⟩ | ⟨z, _⟩
    · exact z
    · obtain ⟨p, hp, q⟩ := isTab_ex z
      rw [← q, L.tab p hp] at e
      cases e
      exact absurd rfl d2
    · subst z
      rw [lst] at e
      cases e
      exact absurd rfl (d1 _ _)
  have see : ∀ (b : Addr) (ob : Obj), s1.heap.get? b = some ob → (∀ ys n, ob.data ≠ .seq ys n) → ob.data ≠ .fields #[] → (hidT s1.heap H).get? b = some ob := fun b ob e d1 d2 => hidT_get e (plain b ob e d1 d2)
  have ns2 : ∀ (b : Addr) (m : Str → Option Value), s1.heap.Ns b m → (hidT s1.heap H).Ns b m := by
    rintro b m ⟨ob, es, ep, e, d, r⟩
    exact ⟨ob, es, ep, see b ob e (fun ys n z => by rw [d] at z; cases z) (fun z => by rw [d] at z; cases z), d, r⟩
  have inB : K.In (hidT s1.heap H) := by
    intro b ob e
    refine hidT_get (inK b ob e) ?_
    rcases only b with z | ⟨z, _⟩ | ⟨z, o, xs, q⟩
    · exact z
    · obtain ⟨p, hp, q⟩ := isTab_ex z
      rw [← q, L.off p hp] at e
      cases e
    · subst z
      rw [scrK (by rw [q]; simp)] at e
      cases e
  have tb : ∀ p ∈ cs, LamX.TabB (hidT s1.heap H) mg p.1 p.2 := by
    intro p hp
    have hT := L.tab p hp
    obtain ⟨bm, ob, b1, b2, b3, b4, b5, b6⟩ := L.bm
    have n1 : bm ≠ mainGlobals := by
      rintro rfl
      obtain ⟨o, es, ep, e, d, _⟩ := nsG
      rw [e] at b3
      cases b3
      rw [d] at b6
      cases b6
    have n2 : bm ≠ p.2 := by
      intro z
      rw [z, hT] at b3
      cases b3
      cases b6
    constructor
    · obtain ⟨o, us, file, tf, flags, tg, inF, text, tt, e1, r1, r2, r3, r⟩ := L.hd p hp
      refine ⟨o, us, file, tf, flags, tg, inF, text, tt, see _ _ e1 (fun ys n z => by rw [r2] at z; cases z) (fun z => ?_), r1, r2, r3, r⟩
      rw [r2] at z
      cases z
      simp at r3
    · exact ⟨bm, ob, b1, b2, n1, n2, see _ _ b3 (fun ys n z => by rw [b6] at z; cases z) (fun z => by rw [b6] at z; cases z), b4, b5, b6⟩
    · intro z
      obtain ⟨o, es, ep, e, d, _⟩ := nsG
      rw [z, hT] at e
      cases e
      cases d
  obtain ⟨mc, l1, l2⟩ := lim
  have md : Mod K mg (hidT s1.heap H) := ⟨inB, ns2 _ _ nsG, ⟨mb, ns2 _ _ nsB, bb⟩, mc, ns2 _ _ l1, l2⟩
  have ev : Env0 P w K mg (hidT s1.heap H) callerA [] s1 H := {
    frames := rfl
    mod := md
    bs := fun b ob e => of_hidT e
    bsz := Nat.le_of_eq (hidT_size _ _)
    funs := trivial
    frf := fun b hb => by
      have z : b ∈ ([] : List Addr) := hb
      simp at z
    hok := ok
    bare := .of_eq g0 }
  have run := (F _ inB (ns2 _ _ nsG) tb).run callerA [] s1 H ⟨[.ref a], []⟩ [.ref a] [.ref a] _ _ hr ev (hbind s1 (.ref a)) (.cons rfl .nil) pr
  refine codeAny_mono run ?_
  intro r s' h
  cases r with
  | error e => exact (noX H e s' h).elim
  | ok fl =>
    cases fl with
    | ret u =>
      obtain ⟨v, H', eo, br, un, ok', rel, q⟩ := h
      have q1 : v = .bl true := q
      subst q1
      have q2 : u = Value.bool true := rel
      subst q2
      have stays : ∀ b ob, s1.heap.get? b = some ob → s'.heap.get? b = some ob ∨ (isTab cs b = true ∧ ∃ more : Array Value, s'.heap.get? b = some { cls := .none, data := .fields more }) := by
        intro b ob e
        rcases only b with z | ⟨z, zt⟩ | ⟨_, o2, xs, z⟩
        · refine .inl (un.keep b ob e z (fun y => ?_) (by simp))
          have y' : b ∈ ([] : List Addr) := y
          simp at y'
        · obtain ⟨more, t⟩ := un.tbls b #[] zt
          exact .inr ⟨z, _, ok' b _ t⟩
        · obtain ⟨e1, _⟩ := ok b _ z
          obtain ⟨e2, _⟩ := ok' b _ (un.frzs b o2 _ z)
          rw [e] at e1
          cases e1
          exact .inl e2
      refine ⟨rfl, ⟨fun b ob e => ?_, fun b ob e => ?_⟩, eo, br⟩
      · rcases stays b ob e with z | ⟨z, more, t⟩
        · exact .inl z
        · obtain ⟨p, hp, q⟩ := isTab_ex z
          subst q
          have hT := L.tab p hp
          rw [hT] at e
          cases e
          exact .inr (.inl ⟨((L.hd p hp).tab hT).isCodeTable, rfl, #[], more, rfl, by rw [Array.empty_append]; exact t⟩)
      · rcases stays b ob e with z | ⟨_, more, t⟩
        · exact ⟨_, z⟩
        · exact ⟨_, t⟩
    | next => exact h.elim
    | brk => exact h.elim
    | cont => exact h.elim
/-- the script's list, if it is tracked, and the tables -/
def lawH (cs : List (Addr × Addr)) (a : Addr) (O : Option HO) : Hp := fun b => if isTab cs b = true then some (.tbl #[]) else if b = a then O else none
theorem lawT_go (F : ∀ base : Heap, K.In base → base.Ns mainGlobals mg → (∀ p ∈ cs, LamX.TabB base mg p.1 p.2) → FnG true P w K mg base CX k fa fd [x] sp) (hbind : ∀ (s : Shared) (u : Value), BindsTo s fd ⟨[u], []⟩ [(x, u)])
    (L : LawT K mg cs s1.heap) (inK : K.In s1.heap) (nsG : s1.heap.Ns mainGlobals mg) (nsB : s1.heap.Ns builtinsNs mb) (bb : ∀ x : Str, x ≠ "__name__" → mb x = bootBuiltins x) (lim : s1.heap.NoLimit) (g0 : s1.gens = #[])
    (hr : RoomG true k callerA) (lst : s1.heap.get? a = some { cls := .type "list", data := .seq vs.toArray }) (its : IntsAre vs ns) (len : ns.length ≤ sizeLine)
    (pr : ∀ H : Hp, (∀ p ∈ cs, H p.2 = some (.tbl #[])) → SqL K H a (ns.map V.int) → sp [.ref a] H (fun v _ => v = .bl true) fun _ _ _ => False) (noX : ∀ H e s', CX [] H s1 (fun _ _ _ => False) e s' → False) :
    codeAny (model P w) callerA (.call (.ref fa) ⟨[.ref a], []⟩) (Good s1) s1 := by
  have rv := vals_ints its
  have na : isTab cs a = false := by
    cases e : isTab cs a with
    | false => rfl
    | true =>
      obtain ⟨p, hp, q⟩ := isTab_ex e
      have z := L.tab p hp
      rw [q, lst] at z
      cases z
  have tabs : ∀ O, ∀ p ∈ cs, lawH cs a O p.2 = some (.tbl #[]) := fun O p hp => if_pos (isTab_of hp)
  have atA : ∀ O, lawH cs a O a = O := fun O => by
    unfold lawH
    rw [if_neg (by rw [na]; decide), if_pos rfl]
  have rest : ∀ O b, isTab cs b = false → b ≠ a → lawH cs a O b = none := fun O b h1 h2 => by
    unfold lawH
    rw [if_neg (by rw [h1]; decide), if_neg h2]
  have oks : ∀ O, (∀ u, O = some u → ObjOk P w (lawH cs a O) s1.heap a u) → HOk P w (lawH cs a O) s1.heap := fun O hO b u z => by
    cases e : isTab cs b with
    | true =>
      have z' : some (HO.tbl #[]) = some u := (if_pos e).symm.trans z
      cases z'
      obtain ⟨p, hp, q⟩ := isTab_ex e
      rw [← q]
      exact L.tab p hp
    | false =>
      by_cases hb : b = a
      · subst hb
        rw [atA] at z
        exact hO u z
      · rw [rest O b e hb] at z
        cases z
  cases hk : K.lookup a with
  | some ob =>
    have e := inK a ob hk
    rw [lst] at e
    cases e
    refine lawT_from (H := lawH cs a none) F hbind L inK nsG nsB bb lim g0 hr (fun b => ?_) (oks none fun u z => by cases z) (fun z => absurd (atA none) z) lst (pr _ (tabs none) ?_) noX
    · cases e : isTab cs b with
      | true => exact .inr (.inl ⟨rfl, if_pos e⟩)
      | false =>
        by_cases hb : b = a
        · subst hb
          exact .inl (atA none)
        · exact .inl (rest none b e hb)
    · right
      refine ⟨_, vs.toArray, _, hk, rfl, rfl, rfl, ?_, ?_⟩
      · rw [List.size_toArray, its.length]
        exact len
      · simpa using rv
  | none =>
    let O : HO := .frz { cls := .type "list", data := .seq vs.toArray } (.lst (ns.map V.int))
    refine lawT_from (H := lawH cs a (some O)) F hbind L inK nsG nsB bb lim g0 hr (fun b => ?_) (oks _ fun u z => ?_) (fun _ => hk) lst (pr _ (tabs _) (.inl (.inr ⟨_, atA _⟩))) noX
    · cases e : isTab cs b with
      | true => exact .inr (.inl ⟨rfl, if_pos e⟩)
      | false =>
        by_cases hb : b = a
        · subst hb
          exact .inr (.inr ⟨rfl, _, _, atA _⟩)
        · exact .inl (rest _ b e hb)
    · cases z
      exact ⟨lst, by rw [List.length_map]; exact len, vs, _, rv, lst⟩
end
theorem walkGT {l : PySem.W.OpenLaw} {n k : Nat} {q : Program} {loose : List Str} {XP : (Str → Option Value) → Heap → Prop} {YP : World → Heap → Prop} {d : DefRec} {CX : World → CXT} {x : Str}
    (hn : l.most = some n) (hn2 : n ≤ sizeLine) (hdf : d.params.defaults = []) (hr : RoomG true k callerA)
    (F : ∀ (w : World) (mg : Str → Option Value) (fa : Addr) (h : Heap), YP w h → h.Ns mainGlobals mg → mg d.name = some (.ref fa) →
      ∃ (K : PySem.W.Frag) (fd : FuncData) (sp : Sp) (cs : List (Addr × Addr)), K.In h ∧ (∀ p ∈ cs, h.get? p.2 = some tabO) ∧ (∀ p ∈ cs, K.lookup p.2 = none) ∧ (∀ p ∈ cs, PySem.W.CodeHd h p.1 p.2) ∧ (∀ (s : Shared) (u : Value), BindsTo s fd ⟨[u], []⟩ [(x, u)]) ∧
        (∀ (H : Hp) (a : Addr) (ns : List Int), ns.length ≤ n → (∀ p ∈ cs, H p.2 = some (.tbl #[])) → SqL K H a (ns.map V.int) → sp [.ref a] H (fun v _ => v = .bl true) fun _ _ _ => False) ∧
        ∀ base : Heap, K.In base → base.Ns mainGlobals mg → (∀ p ∈ cs, LamX.TabB base mg p.1 p.2) → FnG true l.prog w K mg base (CX w) k fa fd [x] sp)
    (noX : ∀ (w : World) (H : Hp) (s : Shared) (e : Value) (s' : Shared), CX w [] H s (fun _ _ _ => False) e s' → False) :
    PySem.W.WalkO q loose XP YP l.row.toRowW d [] (fun f vs => PySem.call f vs) := by
  refine Att.attach_call hn hdf ?_
  intro w s0 s1 mg mb fa o pm cd doc a vs ns G Y ho hd hcd hmg hobj hints hlen hg
  obtain ⟨K, fd, sp, cs, KX, t1, t2, t3, hb, hsp, hF⟩ := F w mg fa _ Y G.T.g hmg
  exact lawT_go hF hb ⟨t1, t2, t3, G.T.bmain⟩ KX G.T.g G.T.b G.T.builtins G.T.nolimit hg hr hobj hints (Nat.le_trans hlen hn2) (fun H hT hS => hsp H a ns hlen hT hS) fun H e s' => noX w H s1 e s'
end
/-! #### U -/
section
open PySem.W (Frag)
/-! ### own errors: what the head looks at -/
def clsB (K : Frag) (C : Addr) : Bool := match K.lookup C with
  | some ⟨.type t, _, .cls cd, sl⟩ => t == "type" && ((match cd.mro with
    | m :: bm => m == .ref C && PySem.HandSPX.refsVE bm
    | [] => false) && (cd.hasDict && (!cd.hasDel && (match sl.toList with
    | [_, _, _, _, some (.builtin n), _] => n == "ValueError.__new__"
    | _ => false))))
  | _ => false
theorem clsB_ok {K : Frag} {C : Addr} (h : clsB K C = true) : ∃ nm q N bs bm sn sub ab col dd k0 k1 k2 k3 k5, K.lookup C = some (excClassObj nm q C N bs bm true sn sub ab col dd k0 k1 k2 k3 k5 "ValueError.__new__") ∧ PySem.HandSPX.refsVE bm = true := by
  unfold clsB at h
  split at h
  · rename_i t dd cd sl ho
    obtain ⟨h1, h⟩ := He.ba h
    obtain ⟨h2, h⟩ := He.ba h
    obtain ⟨h3, h⟩ := He.ba h
    obtain ⟨h4, h5⟩ := He.ba h
    split at h2
    · rename_i m bm hm
      obtain ⟨h6, h7⟩ := He.ba h2
      split at h5
      · rename_i k0 k1 k2 k3 n k5 hs
        obtain ⟨nm, bs, mro, ns, qn, hd, sn, sub, ab, col, del⟩ := cd
        dsimp only at hm h3 h4
        have e1 : t = "type" := by simpa using h1
        have e2 : m = .ref C := by simpa using h6
        have e3 : n = "ValueError.__new__" := by simpa using h5
        have e4 : del = false := by simpa using h4
        have e5 : sl = #[k0, k1, k2, k3, some (.builtin n), k5] := by
          obtain ⟨l⟩ := sl
          simp only at hs
          rw [hs]
        subst e1 e2 e3 e4 e5 hm h3
        exact ⟨nm, qn, ns, bs, bm, sn, sub, ab, col, dd, k0, k1, k2, k3, k5, ho, h7⟩
      · cases h5
    · cases h2
  · cases h
/-- x's __init__ -/
abbrev SuW : Type := Option (Str × Str × Arguments × FuncBody × Scope × Addr × List Str × Addr)
def suW (K : Frag) (x : Str) : SuW := match K.lookup (He.ma K (He.ga K x) "__init__") with
  | some ⟨_, _, .func fd, _⟩ => some (fd.name, fd.qualname, fd.params, fd.body, fd.scope, fd.globals, fd.closure.map (·.1), fd.builtins)
  | _ => none
def suV (qual : Str) (st : Stmt) : SuW := some ("__init__", qual, defArgs st, .stmts (defBody st), defScope st, mainGlobals, ["__class__"], builtinsNs)
def suB (file : Str) (K : Frag) (x f : Str) : Bool :=
  clsB K (He.ga K x) && (He.eqO (PySem.W.findIn K (.ref (He.ga K x)) "__setattr__") (some (some (.builtin "object.__setattr__"))) && (He.eqO (PySem.W.findIn K (.ref (He.ga K x)) f) (some none) &&
  (He.eqO (PySem.W.findIn K (.ref (He.ga K x)) "__init__") (some (some (.ref (He.ma K (He.ga K x) "__init__")))) && (decide (PySem.W.typeIn K (.ref (He.ma K (He.ga K x) "__init__")) = some (.type "function")) && (PySem.W.keepIn K (.ref (He.ga K x)) &&
  (decide (PySem.W.subIn K (.ref (He.ga K x)) (.type "BaseException") = some true) && (decide (PySem.W.subIn K (.ref (He.ga K x)) (.type "ValueError") = some true) && (decide (PySem.W.typeIn K (.ref (He.ga K x)) = some (.type "type")) &&
  (decide (PySem.W.mroIn K (He.ga K x) (.ref (He.ga K x)) = some true) && (He.eqO (PySem.W.ks_superIn K (He.ga K x) (He.ga K x) "__init__") (some (some (.builtin "ValueError.__init__"))) && (He.eqO (PySem.W.nsIn K cStatics "thirdparty.any") (some none) &&
  (match K.lookup (He.ma K (He.ga K x) "__init__") with
  | some ⟨_, _, .func fd, _⟩ => (match fd.defaults with
    | .none => true
    | _ => false) && ((match fd.code with
    | .ref cda => PySem.W.codeIn K (.ref cda) fd.qualname && (match K.lookup cda with
      | some ⟨_, _, .fields vs, _⟩ => (match (vs[2]? : Option Value) with
        | some (Value.str z _) => file == z
        | _ => false)
      | _ => false)
    | _ => false) && (match fd.closure with
    | [(_, cc)] => (match K.lookup cc with
      | some ⟨_, _, .cell (some (.ref D)), _⟩ => D == He.ga K x
      | _ => false)
    | _ => false))
  | _ => false))))))))))))
/-- what is read off the text of an __init__ with one field -/
structure SuTx (st : Stmt) (f : Str) : Prop where
  body : ∃ a1 a2 a3 a4 a5 a6 b1 b2 b3 b4 : Pos, defBody st = [.Expr (.Call (.Attribute (.Call (.Name "super" a1) [] [] a2) "__init__" a3) [.Name f a4] [] a5) a6, .Assign [.Attribute (.Name "self" b1) f b2] (.Name f b3) b4] ∧
    (∀ env : Env, env.scope = defScope st → ∃ pl : Sem Bool, eval (.Call (.Attribute (.Call (.Name "super" a1) [] [] a2) "__init__" a3) [.Name f a4] [] a5) env = (do
      let ov ← attributeBase (.Call (.Name "super" a1) [] [] a2) "__init__" env (eval (.Call (.Name "super" a1) [] [] a2) env)
      standAt a3.atName
      let (h, first) ← holding [ov] (getMethod ov "__init__" pl)
      callWith a5 h first (backTo a5 (starEach [.Name f a4] env)) [])) ∧
    (∀ env : Env, env.scope = defScope st → swapsWith (.Name f b3) (some (.Attribute (.Name "self" b1) f b2)) b4.line env = pure false)
  par : ∃ ar : Arg, ((defArgs st).posonlyargs ++ (defArgs st).args).head? = some ar ∧ ar.arg = "self"
  kind : (defScope st).kind = .function
  co : (defScope st).isCoroutine = false
  gen : (defScope st).isGenerator = false
  nc : ∀ x ∈ (defScope st).names, x.2 ≠ .cell
  n1 : (defScope st).names.lookup ("self" : Str) = some .local
  n2 : (defScope st).names.lookup f = some .local
  n3 : (defScope st).names.lookup ("__class__" : Str) = some .free
  n4 : (defScope st).names.lookup ("super" : Str) = some .globalImplicit
  ne : f ≠ "self"
  db : (f == ("__debug__" : Str)) = false
  bnd : ∀ (s : Shared) (qual : Str) (kV doc pm : Value) (an : Option Addr) (cda cc : Addr) (ct x v : Value), BindsTo s (PySem.W.ksFn "__init__" qual (defArgs st) (defBody st) (defScope st) .none kV doc pm an (.ref cda) ct cc) ⟨[x, v], []⟩ [("self", x), (f, v)]
theorem supT_of {P : Program} {K : Frag} {mg : Str → Option Value} {x f qual : Str} {st : Stmt} (B : suB P.main.file K x f = true) (W : suW K x = suV qual st) (Tx : SuTx st f) (noS : mg "super" = none) (top : (P.main.scope.names.lookup ("super" : Str)).isSome = false) :
    SupT P K mg (He.ga K x) (He.ma K (He.ga K x) "__init__") f := by
  unfold suB at B
  obtain ⟨h1, B⟩ := He.ba B
  obtain ⟨h2, B⟩ := He.ba B
  obtain ⟨h3, B⟩ := He.ba B
  obtain ⟨h4, B⟩ := He.ba B
  obtain ⟨h5, B⟩ := He.ba B
  obtain ⟨h6, B⟩ := He.ba B
  obtain ⟨h7, B⟩ := He.ba B
  obtain ⟨h8, B⟩ := He.ba B
  obtain ⟨h9, B⟩ := He.ba B
  obtain ⟨h10, B⟩ := He.ba B
  obtain ⟨h11, B⟩ := He.ba B
  obtain ⟨h12, B⟩ := He.ba B
  refine ⟨clsB_ok h1, He.eqO_ok h2, He.eqO_ok h3, He.eqO_ok h4, of_decide_eq_true h5, h6, of_decide_eq_true h7, of_decide_eq_true h8, of_decide_eq_true h9, of_decide_eq_true h10, He.eqO_ok h11, He.eqO_ok h12, noS, top, ?_⟩
  unfold suW suV at W
  split at B
  · rename_i oc od fd osl ho
    rw [ho] at W
    obtain ⟨m1, m2, m3, m4, m5, m6, m7, m8, m9, m10, m11, m12, m13, m14, m15⟩ := fd
    simp only [Option.some.injEq, Prod.mk.injEq] at W
    obtain ⟨e1, e2, e3, e4, e5, e6, e7, e8⟩ := W
    subst e1 e2 e3 e4 e5 e6 e8
    obtain ⟨B1, Br⟩ := He.ba B
    clear B
    obtain ⟨B2, B3⟩ := He.ba Br
    clear Br
    dsimp only at B1 B2 B3
    split at B1
    · split at B2
      · rename_i cda
        obtain ⟨C1, C2⟩ := He.ba B2
        split at C2
        · rename_i ccl cdd vs ccs hcode
          split at C2
          · rename_i z tf hvs
            split at B3
            · rename_i nm cc
              split at B3
              · rename_i cl cld D csl hcell
                have eD : D = He.ga K x := by simpa using B3
                subst eD
                have enm : nm = ("__class__" : Str) := by
                  have q : [nm] = [("__class__" : Str)] := e7
                  exact (List.cons.inj q).1
                subst enm
                obtain ⟨a1, a2, a3, a4, a5, a6, b1, b2, b3, b4, hb, hev, hsw⟩ := Tx.body
                obtain ⟨ar, hp, har⟩ := Tx.par
                have bnd := Tx.bnd
                rw [hb] at ho bnd
                exact ⟨oc, od, m2, defArgs st, defScope st, .none, m9, m10, m11, m12, cda, cc, m14, osl, a1, a2, a3, a4, a5, a6, b1, b2, b3, b4, ar, ccl, cdd, vs, ccs, z, tf, cl, cld, csl, ho, C1, hcode, hvs, C2, hcell, hp, har, Tx.kind, Tx.co, Tx.gen, Tx.nc, Tx.n1, Tx.n2, Tx.n3, Tx.n4, Tx.ne, Tx.db,
                  fun s x v => bnd s m2 m9 m10 m11 m12 cda cc m14 x v, hev, hsw⟩
              · cases B3
            · cases B3
          · cases C2
        · cases C2
      · cases B2
    · cases B1
  · cases B
/-! ### the Hook: defs, own errors, makers of lambdas, one Bool more -/
structure SaysU (fa : List He.Fa) (fn : List He.DefD) (su : List Str) (sv : List SuW) (tf : List He.Defn) (ex : Frag → Bool) (h : Heap) (K : Frag) : Prop where
  d : He.SaysD fa fn K
  s : su.map (suW K) = sv
  more : ex K = true
  hd : ∀ p ∈ tf, PySem.W.codeHdIn K (He.cT K p).1 (He.cT K p).2 = true
  out : ∀ p ∈ tf, K.lookup (He.cT K p).2 = none
  empty : ∀ p ∈ tf, h.get? (He.cT K p).2 = some tabO
abbrev AlU : Type := (He.AlD × List SuW) × Bool
def frU (n : Nat) (g : Addr → Option Obj) : Frag := He.frT g (He.asD g n ++ [cStatics, sysModules])
def obsU (n : Nat) (fa : List He.Fa) (fn : List He.DefD) (su : List Str) (tf : List He.Defn) (ex : Frag → Bool) (g : Addr → Option Obj) : AlU :=
  ((He.obsD fa fn (frU n g), su.map (suW (frU n g))), ex (frU n g) && He.tabsB g tf (frU n g))
def valU (fn : List He.DefD) (sv : List SuW) : AlU := ((He.valD fn, sv), true)
theorem saysU_of {n : Nat} {fa : List He.Fa} {fn : List He.DefD} {su : List Str} {sv : List SuW} {tf : List He.Defn} {ex : Frag → Bool} {h : Heap} (e : obsU n fa fn su tf ex h.get? = valU fn sv) : SaysU fa fn su sv tf ex h (frU n h.get?) := by
  have e1 : He.obsD fa fn (frU n h.get?) = He.valD fn := congrArg (fun z : AlU => z.1.1) e
  have e2 : su.map (suW (frU n h.get?)) = sv := congrArg (fun z : AlU => z.1.2) e
  have e3 : (ex (frU n h.get?) && He.tabsB h.get? tf (frU n h.get?)) = true := congrArg (fun z : AlU => z.2) e
  obtain ⟨h1, h2⟩ := He.ba e3
  have look : ∀ p ∈ tf, PySem.W.codeHdIn (frU n h.get?) (He.cT (frU n h.get?) p).1 (He.cT (frU n h.get?) p).2 = true ∧ ∃ o, h.get? (He.cT (frU n h.get?) p).2 = some o ∧ He.emptyTab o = true := by
    intro p hp
    obtain ⟨h3, h4⟩ := He.ba (List.all_eq_true.mp h2 p hp)
    refine ⟨h3, ?_⟩
    split at h4
    · rename_i o q
      exact ⟨o, q, h4⟩
    · cases h4
  refine ⟨e1, e2, h1, fun p hp => (look p hp).1, fun p hp => ?_, fun p hp => ?_⟩
  · obtain ⟨_, o, q, z⟩ := look p hp
    exact He.frT_none q z
  · obtain ⟨_, o, q, z⟩ := look p hp
    rw [q, He.emptyTab_eq z]
def hookU (n : Nat) (fa : List He.Fa) (fn : List He.DefD) (su : List Str) (sv : List SuW) (tf : List He.Defn) (ex : Frag → Bool) : PySem.W.Hook where
  α := AlU
  obs := fun s => obsU n fa fn su tf ex s.heap.get?
  val := fun _ => valU fn sv
  says := fun _ h => ∃ K : Frag, K.In h ∧ SaysU fa fn su sv tf ex h K
  of := fun _ _ e => ⟨_, He.frT_in, saysU_of e⟩
  keeps := fun _ _ _ ⟨K, hK, c⟩ k => ⟨K, PySem.W.Frag.In.keeps hK k, ⟨c.d, c.s, c.more, c.hd, c.out, fun p hp => k _ _ (c.empty p hp)⟩⟩
theorem obsU_eq {n : Nat} {fa : List He.Fa} {fn : List He.DefD} {su : List Str} {sv : List SuW} {tf : List He.Defn} {ex : Frag → Bool} {g : Addr → Option Obj} {s : Shared} (h : ∀ a, g a = s.heap.get? a) : obsU n fa fn su tf ex g = (hookU n fa fn su sv tf ex).obs s := by
  have e : g = s.heap.get? := funext h
  subst e
  rfl
theorem SaysU.sup {fa : List He.Fa} {fn : List He.DefD} {su : List Str} {sv : List SuW} {tf : List He.Defn} {ex : Frag → Bool} {h : Heap} {K : Frag} (c : SaysU fa fn su sv tf ex h K) (i : Nat) {x : Str} {v : SuW} (h1 : su[i]? = some x) (h2 : sv[i]? = some v) : suW K x = v := by
  have e := c.s
  rw [← e, List.getElem?_map, h1] at h2
  exact Option.some.inj h2
end
/-! #### V -/
section
/-! ### try: .. except x as n: y = n / the rest, the error held in y -/
abbrev heldX (X : Cx) (a : Addr) (oe : Obj) : Cx := { X with pn := (a, oe) :: X.pn }
section
variable {X : Cx} {pins : List (Addr × Obj)} {σ : L2.St} {H : Hp} {s : Shared} {a : Addr} {oe : Obj}
theorem held_ok (ok : X.Ok) : (heldX X a oe).Ok := by
  obtain ⟨h1, h2, h3, h4, h5, h6, h7, h8, h9, h10, h11, h12, h13, h14, h15, h16, h17, h18⟩ := ok
  exact ⟨h1, h2, h3, h4, h5, h6, h7, h8, h9, h10, h11, h12, h13, h14, h15, h16, h17, h18⟩
theorem held_in {pn : List (Addr × Obj)} {b : Addr} (ok : X.Ok) (I : Inv (X.suite b ((a, oe) :: (X.pn ++ pins))) pn σ H s) : Inv (heldX X a oe) pins σ H s := by
  obtain ⟨_, h2, h3, h4, h5, h6, h7, h8, h9, h10, h11⟩ := I
  exact ⟨held_ok ok, h2, h3, h4, h5, h6, h7, h8, fun p hp => h9 p (List.mem_append_left _ hp), h10, h11⟩
theorem held_out (ok : X.Ok) (I : Inv (heldX X a oe) pins σ H s) : Inv X pins σ H s := by
  obtain ⟨_, h2, h3, h4, h5, h6, h7, h8, h9, h10, h11⟩ := I
  exact ⟨ok, h2, h3, h4, h5, h6, h7, h8, fun p hp => h9 p (List.mem_cons_of_mem _ hp), h10, h11⟩
end
/-- behind the try: with the error held, or without one -/
def SPk (X : Cx) (pins : List (Addr × Obj)) (D : Ends) (u : TS) (k : Addr → Value → Option Addr → TS) (f : Flow) (s' : Shared) : Prop :=
  match f with
  | .next => (∃ σ' H', Inv X pins σ' H' s' ∧ u D σ' H') ∨ ∃ a oe cls d σ' H', Zc cls d oe ∧ (∃ vs, oe.data = .fields vs) ∧ Inv (heldX X a oe) pins σ' H' s' ∧ k a cls d D σ' H'
  | f => SP X pins D f s'
/-- what is wished of an error that flies out of the body: i the slot of n, j of y -/
def wKeep (K : PySem.W.Frag) (c : Value) (i j : Nat) (k : Addr → Value → Option Addr → TS) (Wout : WX) (D : Ends) : WX := fun cls d σ H =>
  ∃ b, PySem.W.exmOne K cls c = some b ∧ (b = true → ∀ a, H a = none → k a cls d D (((σ.set i (some (.ref a))).set j (some (.ref a))).set i none) H) ∧ (b = false → Wout cls d σ H)
section
variable {X : Cx} {x n y : Str} {c : Value} {i j : Nat} {body rest : List Stmt} {np p1 p2 p3 pos pos' : Pos} {tb : WX → TS} {u : TS} {k : Addr → Value → Option Addr → TS} {Wout : WX}
theorem pss_keep (hs : X.stack = X.env :: X.outer) (hf : X.env.frame = some X.env.locals) (hN : X.N.Nodup) (hi : X.N[i]? = some n) (hj : X.N[j]? = some y) (hij : i ≠ j) (hln : X.env.kindOf n = some .local) (hly : X.env.kindOf y = some .local) (hc : Names X x c) (tk : Takes X Wout)
    (hdn : (n == ("__debug__" : Str)) = false) (hcn : (n == ("__classdict__" : Str)) = false) (hsw : swapsWith (.Name n p2) (some (.Name y p1)) p3.line X.env = pure false)
    (hb : ∀ (W : WX) (pn : List (Addr × Obj)) (xe : Value → Shared → Prop), Takes (X.tr pn xe) W → PassesOwn (model X.prog X.w) X.A X.env xe → PSs (X.tr pn xe) body (tb W))
    (hr : PSs X rest u) (hk : ∀ (a : Addr) (oe : Obj) (cls : Value) (d : Option Addr), Zc cls d oe → (∃ vs, oe.data = .fields vs) → PSs (heldX X a oe) rest (k a cls d)) :
    PSs X (.Try body [.ExceptHandler (some (.Name x np)) (some n) [.Assign [.Name y p1] (.Name n p2) p3] pos'] [] [] pos :: rest) (fun D σ H => tb (wKeep X.K c i j k Wout D) { D with nx := u D } σ H) := by
  constructor
  intro pins s σ H D I h
  have ok := I.ok
  refine wpAny_execs_cons (thn (Q := SPk X pins D u k) ?_ ?_)
  · have frm : X.A.frames = some (X.env :: X.outer) := ok.frames.trans (by rw [hs])
    refine wpAny_Try_except ?_
    refine wpAny_mono ((hb (wKeep X.K c i j k Wout D) (X.pn ++ pins) (fun e s₁ => wpAny (model X.prog X.w) X.A (noteFrame e X.env) (fun _ s₂ => wpAny (model X.prog X.w) X.A (setFlight e none) (fun _ s₃ =>
      wpAny (model X.prog X.w) X.A (handleBy e X.env [.ExceptHandler (some (.Name x np)) (some n) [.Assign [.Name y p1] (.Name n p2) p3] pos']) (SPk X pins D u k) X.xe s₃) X.xe s₂) X.xe s₁) ?_ PassesOwn.looking).run [] s σ H _ (I.toTry _) h) ?_ (fun _ _ z => z)
    · intro e' s' fly
      obtain ⟨a, B, sI, pins', σ', H', cls, d, rfl, J', nb, up, sky, na, os, ag, b, hb1, yes, no⟩ := fly
      have J : Inv X pins σ' H' sI := J'.ofTry ok
      rw [show (X.tr (X.pn ++ pins) _).stack = X.env :: X.outer from hs] at sky
      refine Sky.land Zc.steady frm hf sky fun g1 fl1 up1 => ?_
      have J1 : Inv X pins σ' H' { s' with heap := g1 } := J.landed nb fl1.1 (up.trans up1) os ag
      obtain ⟨o1, v1, at1, z1, d1⟩ := fl1.there
      have away : a ∉ frs (X.env :: X.outer) := by
        intro hm
        obtain ⟨_, o', e', nof⟩ := fl1.2.2.1.mem hm
        rw [at1] at e'
        cases e'
        exact nof _ d1
      have nL : a ≠ X.env.locals := fun z => away (List.mem_filterMap.mpr ⟨X.env, List.mem_cons_self, by rw [hf, z]⟩)
      have nF : a ∉ X.fs := by
        intro hm
        obtain ⟨e, he, q⟩ := List.mem_filterMap.mp hm
        exact away (List.mem_filterMap.mpr ⟨e, List.mem_cons_of_mem _ he, q⟩)
      have S1 := J1.suite at1 d1 na nL nF
      refine wpAny_handleBy_cons (codeAny_handlers_test ?_) (by intro q; cases q)
      have ty : PySem.W.Looks (model X.prog X.w) g1 (typeOf (.ref a)) cls := fun A Q E s k q => wpAny_typeOf_ref (k _ _ at1) (by rw [z1.1]; exact q)
      have mt := PySem.W.exm_one (M := model X.prog X.w) (J1.kIn) ty hb1
      have named : ∀ {Q : Value → Shared → Prop} {E : Value → Shared → Prop}, Q c { s' with heap := g1 } → wpAny (model X.prog X.w) (X.A.mark (some (.ref a))) (eval (.Name x np) X.env) Q E { s' with heap := g1 } := by
        intro Q E q
        obtain ⟨hg, hdbg, hm | ⟨hm, hv, hnn⟩⟩ := hc
        · exact ld_glob (X := X.suite a ((a, o1) :: (X.pn ++ pins))) S1 hg hm q hdbg
        · exact ld_blt (X := X.suite a ((a, o1) :: (X.pn ++ pins))) S1 hg hm hv q hnn hdbg
      refine named (mt.here ?_)
      cases b with
      | true =>
        refine codeAny_handlers_suite_as ?_
        refine HandSPX.lands_againZ fl1 fun g2 fl2 up2 => ?_
        have J2 : Inv X pins σ' H' { s' with heap := g2 } := J.landed nb fl2.1 ((up.trans up1).trans up2) os ag
        obtain ⟨o2, v2, at2, z2, d2⟩ := fl2.there
        have S2 := J2.suite at2 d2 na nL nF
        refine store_ok (X := X.suite a ((a, o2) :: (X.pn ++ pins))) (v := .ref a) S2 hN hi (.inl hln) rfl (fun s5 S5 => ?_) (.inr hln)
        have hlen : i < σ'.length := by
          rw [J.len]
          exact (List.getElem?_eq_some_iff.mp hi).1
        have put : PSs (X.suite a ((a, o2) :: (X.pn ++ pins))) [.Assign [.Name y p1] (.Name n p2) p3] (tAsg (tVar i) (gName j)) := pss_one (ps_asg (pe_var hi (.inl hln) hdn hcn) (pg_name hN hj (.inl hly) (hf := .inr hly)) hsw)
        refine wpAny_mono (put.run [] s5 _ H' { nx := fun σ6 H6 => σ6 = (σ'.set i (some (.ref a))).set j (some (.ref a)) ∧ H6 = H', rt := fun _ _ => False } S5 ?_) (fun f s6 q6 => ?_) (fun _ _ z => z.elim)
        · exact ⟨.ref a, List.getElem?_set_self hlen, rfl, rfl⟩
        cases f with
        | next =>
          obtain ⟨σ6, H6, S6, rfl, rfl⟩ := q6
          have R6 := held_in ok S6
          refine gone_ok (X := heldX X a o2) R6 hN hi hln fun s7 J7 => ?_
          exact .inr ⟨a, o2, cls, d, _, _, z2, ⟨_, d2⟩, J7, yes rfl a na⟩
        | brk =>
          obtain ⟨_, _, _, z⟩ := q6
          exact z.elim
        | cont =>
          obtain ⟨_, _, _, z⟩ := q6
          exact z.elim
        | ret w =>
          obtain ⟨_, _, _, _, _, z⟩ := q6
          exact z.elim
      | false =>
        show wpAny _ X.A (handleBy (.ref a) X.env []) _ _ _
        refine wpAny_handleBy_nil ?_
        obtain ⟨_, _, _, oe, vs, T, oT, ts', he, hz, hd, h1, _⟩ := id fl1
        unfold PySem.passOn
        refine wpAny_bind (wpAny_field he hd h1 ?_)
        rw [if_neg (show ¬ ((Value.ref T == Value.none) = true) from by simp)]
        have on : wpAny (model X.prog X.w) X.A (setFlight (.ref a) X.env.frame) (fun _ s4 => wpAny (model X.prog X.w) X.A (throw (.ref a) : Sem Flow) (SPk X pins D u k) X.xe s4) X.xe { s' with heap := g1 } := by
          rw [hf]
          refine HandSPX.setFlight_upZ fl1 fun h4 hh4 up4 => wpAny_throw (tk _ _ ?_)
          exact ⟨a, B, sI, pins, σ', H', cls, d, rfl, J, nb, (up.trans up1).trans up4, .inr (.inr (by rw [hs]; exact hh4)), na, os, ag, no rfl⟩
        first
          | exact wpAny_bind (wpAny_pure (wpAny_bind on))
          | exact wpAny_bind on
    · intro f s1 q
      cases f with
      | next =>
        obtain ⟨σ', H', J', q⟩ := q
        exact wpAny_execs_nil (.inl ⟨σ', H', J'.ofTry ok, q⟩)
      | brk =>
        obtain ⟨σ', H', J', q⟩ := q
        exact ⟨σ', H', J'.ofTry ok, q⟩
      | cont =>
        obtain ⟨σ', H', J', q⟩ := q
        exact ⟨σ', H', J'.ofTry ok, q⟩
      | ret v =>
        obtain ⟨v', σ', H', J', r, q⟩ := q
        exact ⟨v', σ', H', J'.ofTry ok, r, q⟩
  · intro f s1 q
    cases f with
    | next =>
      rcases q with ⟨σ', H', J, q⟩ | ⟨a, oe, cls, d, σ', H', hz, hv, J, q⟩
      · exact hr.run pins s1 σ' H' D J q
      · refine thn ((hk a oe cls d hz hv).run pins s1 σ' H' D J q) fun f s2 q2 => ?_
        cases f with
        | next =>
          obtain ⟨σ2, H2, J2, q2⟩ := q2
          exact ⟨σ2, H2, held_out ok J2, q2⟩
        | brk =>
          obtain ⟨σ2, H2, J2, q2⟩ := q2
          exact ⟨σ2, H2, held_out ok J2, q2⟩
        | cont =>
          obtain ⟨σ2, H2, J2, q2⟩ := q2
          exact ⟨σ2, H2, held_out ok J2, q2⟩
        | ret v =>
          obtain ⟨v2, σ2, H2, J2, r2, q2⟩ := q2
          exact ⟨v2, σ2, H2, held_out ok J2, r2, q2⟩
    | brk => exact q
    | cont => exact q
    | ret v => exact q
end
end
/-! #### W -/
section
open PySem.W PySem.Calls
/-! ### isinstance of an error that has a dict -/
section
variable {prog : Program} {w : World} {A : Around} {E : Value → Shared → Prop} {s : Shared} {K : Frag} {x D : Addr} {ox : Obj} {od : Option Obj}
theorem found_class {C : Addr} {name : Str} {a g : Value} (h1 : (clsIn K C).isSome = true) (h2 : findIn K (.ref C) name = some (some a)) (h3 : specialIn K a "__get__" = some (some g)) (h4 : takesIn K a = some true) : findObj K C od name = some (.bind g a) := by
  obtain ⟨cd, e⟩ := Option.isSome_iff_exists.mp h1
  unfold findObj
  rw [e, Option.bind_some, h2, Option.bind_some]
  simp [h3, h4]
theorem class_of_err {Q : Option Value → Shared → Prop} (T : L2.ExcC K D) (KX : K.In s.heap) (J : InstAt s.heap x ox D od) (fin : Q (some (.ref D)) { s with toks := s.toks + 1 }) : wpAny (model prog w) A (getAttr? (.ref x) "__class__") Q E s := by
  have fo : findObj K D od "__class__" = some (.bind (.builtin "getset_descriptor.__get__") (.builtin "object.__class__")) := by
    refine found_class ?_ T.ha T.hn T.ht
    obtain ⟨cd, e, _⟩ := any_some T.hd
    rw [e]
    rfl
  obtain ⟨hp, g, d, t, os⟩ := s
  have l0 := J.type (M := model prog w)
  have l1 := looks_findIn (M := model prog w) KX T.hg
  have l2 := looks_findIn (M := model prog w) KX T.hk
  have l3 := looks_find (M := model prog w) KX J fo
  have isB : Looks (model prog w) hp (isInstance (.ref x) (.type "BaseException")) true := l0.andThen (looks_subIn KX T.hs)
  have n2 : (Value.builtin "BaseException.__getattribute__" == Value.builtin "object.__getattribute__") = false := by decide +kernel
  have n1 : (onTheHeap (Value.ref D) && Value.builtin "BaseException.__getattribute__" == Value.builtin "object.__getattribute__") = false := by rw [n2]; rfl
  have n0 : (false && onTheHeap (Value.builtin "BaseException.__getattribute__")) = false := rfl
  unfold getAttr? getAttrBy? getAttrBy
  refine wpAny_bind (wpAny_mkText (wpAny_bind (wpAny_attempt (wpAny_holding (wpAny_bind (l0.at (wpAny_bind (l1.at ?_))))))))
  show wpAny _ _ (if (onTheHeap (Value.ref D) && Value.builtin "BaseException.__getattribute__" == Value.builtin "object.__getattribute__") = true then _ else _) _ _ _
  rw [n1, if_neg Bool.false_ne_true]
  unfold getAttrByItsOwn hookBefore
  refine wpAny_bind ?_
  rw [if_pos (show onTheHeap (Value.ref D) = true from rfl)]
  refine l2.at (wpAny_bind (wpAny_attempt (wpAny_holding ?_)))
  unfold callGetattribute
  rw [n0, if_neg Bool.false_ne_true]
  unfold boundAndCalled
  rw [PySem.F.excAttr_ValueError.ga.bind (.ref x)]
  refine wpAny_bind (wpAny_pure (wpAny_call (codeAny_call_builtin PySem.F.excAttr_ValueError.ga.plain PySem.F.entry_bexc_ga ?_)))
  refine @check_slot (model prog w) _ _ ⟨hp, g, d, t + 1, os⟩ "BaseException.__getattribute__" "BaseException" "__getattribute__" (.ref x) [.str "__class__" t] [] _ (by decide +kernel) (by decide +kernel) isB (PySem.F.args_bexc_ga (.ref x) (.str "__class__" t)) ?_
  unfold Builtin.«object.__getattribute__»
  refine wpAny_bind (wpAny_of_eq (a := ((Value.ref x : Value), [Value.str "__class__" t])) (by first | rfl | (simp only [slotArgs]; rfl)) (wpAny_bind (wpAny_pure (wpAny_bind (l0.at (wpAny_bind (l3.at ?_)))))))
  show wpAny _ _ (holding [Value.builtin "object.__class__"] (call (.builtin "getset_descriptor.__get__") [.builtin "object.__class__", .ref x, .ref D]) >>= ret) _ _ _
  refine wpAny_bind (wpAny_holding (wpAny_call (class_get (s := ⟨hp, g, d, t + 1, os⟩) (ox := ox) (od := od) KX J T.hm (wpAny_pure ?_))))
  show wpAny _ _ (handedOut (.ref D)) _ _ _
  rw [handedOut_of (v := .ref D) rfl]
  first
    | exact wpAny_pure (wpAny_pure fin)
    | exact wpAny_pure fin
    | exact wpAny_pure (wpAny_bind (wpAny_pure (wpAny_pure fin)))
theorem kitx_err (T : L2.ExcC K D) : KitX K (.ref x) (.ref D) (fun h => ∃ od, InstAt h x ox D od) where
  ty := fun _ _ _ I => by
    obtain ⟨od, I⟩ := I
    exact I.type
  it := fun M h KX _ => by
    obtain ⟨cd, e, _⟩ := any_some T.hd
    unfold clsIn at e
    split at e
    · rename_i c' d' cd' sl' ho
      intro A' Q' E' s' k q
      unfold isType loadHead
      exact wpAny_bind (wpAny_loadPart (k _ _ (KX _ _ ho)) (wpAny_pure q))
    · cases e
  ne := fun h tp dd its n sl KX htp => by
    obtain ⟨cd, e, _⟩ := any_some T.hd
    refine Bool.eq_false_iff.mpr fun q => ?_
    have z : D = tp := Value.ref.inj (beq_iff_eq.mp q)
    subst z
    unfold clsIn at e
    split at e
    · rename_i c' d' cd' sl' ho
      have y := (KX _ _ ho).symm.trans htp
      cases y
    · cases e
  ca := fun KX I k => by
    obtain ⟨od, I⟩ := I
    exact class_of_err T KX I k
end
/-- what the written part says of an own error's class: isinstance may be asked, fields may be read -/
def ecB (K : PySem.W.Frag) (D : Addr) : Bool := xfB K D && (He.eqO (PySem.W.findIn K (.ref D) "__class__") (some (some (.builtin "object.__class__"))) && (He.eqO (PySem.W.specialIn K (.builtin "object.__class__") "__get__") (some (some (.builtin "getset_descriptor.__get__"))) &&
  (decide (PySem.W.takesIn K (.builtin "object.__class__") = some true) && decide (PySem.W.mroIn K D (.type "object") = some true))))
theorem ecB_ok {K : PySem.W.Frag} {D : Addr} (h : ecB K D = true) : XfC K D ∧ ExcC K D := by
  obtain ⟨h1, h⟩ := He.ba h
  obtain ⟨h2, h⟩ := He.ba h
  obtain ⟨h3, h⟩ := He.ba h
  obtain ⟨h4, h5⟩ := He.ba h
  have X := xfB_ok h1
  exact ⟨X, X.ga, X.gg, X.exC, X.hdC, He.eqO_ok h2, He.eqO_ok h3, of_decide_eq_true h4, of_decide_eq_true h5⟩
section
variable {X : Cx} {a : Addr} {oe : Obj} {cls : Value} {d : Option Addr}
/-- the held error is an instance that has its dict -/
theorem held_inst {pins : List (Addr × Obj)} {σ : L2.St} {H : Hp} {s : Shared} {D dd : Addr} {fs : List (Str × V)} (hz : Zc (.ref D) (some dd) oe) (hf : ∃ vs, oe.data = .fields vs) (I : Inv (heldX X a oe) pins σ H s) (hd : H dd = some (.xd fs)) :
    ∃ od, PySem.W.InstAt s.heap a oe D (some od) ∧ ∀ n v, fs.lookup n = some v → ∃ u, RelV v u ∧ PySem.W.lookIn n od = some (some u) := by
  obtain ⟨ha, _⟩ := I.pin (a, oe) (List.mem_append_left _ List.mem_cons_self)
  obtain ⟨vs, hv⟩ := hf
  obtain ⟨mA, hns, hr⟩ : ObjOk X.prog X.w H s.heap dd (.xd fs) := I.hok dd _ hd
  obtain ⟨od, ho, hl⟩ := lookIn_ns hns
  refine ⟨od, ⟨ha, hz.1, by unfold PySem.W.notCls; rw [hv] <;> rfl, by rw [hz.2]; exact ho⟩, fun n v l => ?_⟩
  obtain ⟨u, hu, ru⟩ := RelO.some_of (v := v) (o := mA n) (by rw [← l]; exact hr n)
  exact ⟨u, ru, by rw [hl, hu]⟩
/-- isinstance(y, c), y the held error -/
def rIsH (K : PySem.W.Frag) (a : Addr) (cls : Value) (d : Option Addr) : List V → Hp → VK → Prop := fun xs H Q => ∃ (D dd : Addr) (fs : List (Str × V)) (c : V) (cv : Value) (b : Bool), xs = [.ref a, c] ∧ cls = .ref D ∧ d = some dd ∧ H dd = some (.xd fs) ∧ ecB K D = true ∧ (∀ u, RelV c u → u = cv) ∧ PySem.W.kitOne K (.ref D) cv = some b ∧ Q (.bl b) H
theorem call_isH (hz : Zc cls d oe) (hf : ∃ vs, oe.data = .fields vs) : CallR (heldX X a oe) (.builtin "isinstance") (rIsH X.K a cls d) := by
  intro pins s σ H xs us Q I r h
  obtain ⟨D, dd, fs, c, cv, b, rfl, rfl, rfl, hd, T, hcv, e, q⟩ := h
  cases r with
  | cons rx rr =>
    cases rr with
    | cons rt rr =>
      cases rr
      cases rx
      cases hcv _ rt
      obtain ⟨od, J, _⟩ := held_inst hz hf I hd
      exact PySem.W.kia_one (kitx_err (ox := oe) (ecB_ok T).2) I.kIn ⟨_, J⟩ e (fun z => nomatch z) fun tk => ⟨.bl b, H, I.kept (t' := tk) fun _ _ z => z, rfl, q⟩
/-- y.n, y the held error -/
def tHf (K : PySem.W.Frag) (a : Addr) (cls : Value) (d : Option Addr) (n : Str) (te : TE) : TE := fun σ H Q => te σ H fun x H1 => ∃ (D dd : Addr) (fs : List (Str × V)) (v : V), x = .ref a ∧ cls = .ref D ∧ d = some dd ∧ H1 dd = some (.xd fs) ∧ ecB K D = true ∧ PySem.W.findIn K (.ref D) n = some none ∧ fs.lookup n = some v ∧ Q v H1
theorem pe_hf {e : Expr} {te : TE} {pos : Pos} {n : Str} (hz : Zc cls d oe) (hf : ∃ vs, oe.data = .fields vs) (he : PE (heldX X a oe) e te) (hb : attributeBase e n X.env (eval e X.env) = eval e X.env := by rfl) :
    PE (heldX X a oe) (.Attribute e n pos) (tHf X.K a cls d n te) := by
  constructor
  intro pins s σ H Q I h
  refine attr_of hb (thn (he.run pins s σ H _ I h) fun u s1 hh => ?_)
  obtain ⟨x, H1, I1, rx, D, dd, fs, v, rfl, rfl, rfl, hd, T, hno, l, q⟩ := hh
  cases rx
  obtain ⟨od, J, lk⟩ := held_inst hz hf I1 hd
  obtain ⟨u, ru, hu⟩ := lk n v l
  have C := (ecB_ok T).1
  exact HandSPX.exc_get I1.kIn J C.ga C.gg C.exC (PySem.W.findObj_own C.hdC hno rfl hu) (handed_of ru) ⟨v, H1, I1.tok _, ru, q⟩
end
end
/-! #### X -/
section
/-! ### an own error that is a value: isinstance, fields -/
section
variable {X : Cx}
theorem val_inst {pins : List (Addr × Obj)} {σ : L2.St} {H : Hp} {s : Shared} {p D dd : Addr} {fs : List (Str × V)} (I : Inv X pins σ H s) (hp : H p = some (exo p D (some dd))) (hd : H dd = some (exd dd fs)) :
    ∃ ox od, PySem.W.InstAt s.heap p ox D (some od) ∧ ∀ n v, fs.lookup n = some v → ∃ u, RelV v u ∧ PySem.W.lookIn n od = some (some u) := by
  obtain ⟨t1, hx⟩ := exo_at I.hok hp
  obtain ⟨mA, hns, hr⟩ := exd_at I.hok hd
  obtain ⟨od, ho, hl⟩ := lookIn_ns hns
  refine ⟨_, od, ⟨hx, rfl, rfl, ho⟩, fun n v l => ?_⟩
  obtain ⟨u, hu, ru⟩ := RelO.some_of (v := v) (o := mA n) (by rw [← l]; exact hr n)
  exact ⟨u, ru, by rw [hl, hu]⟩
def rIsV (K : PySem.W.Frag) : List V → Hp → VK → Prop := fun xs H Q => ∃ (p D dd : Addr) (fs : List (Str × V)) (c : V) (cv : Value) (b : Bool), xs = [.ref p, c] ∧ H p = some (exo p D (some dd)) ∧ H dd = some (exd dd fs) ∧ ecB K D = true ∧ (∀ u, RelV c u → u = cv) ∧ PySem.W.kitOne K (.ref D) cv = some b ∧ Q (.bl b) H
theorem call_isV : CallR X (.builtin "isinstance") (rIsV X.K) := by
  intro pins s σ H xs us Q I r h
  obtain ⟨p, D, dd, fs, c, cv, b, rfl, hp, hd, T, hcv, e, q⟩ := h
  cases r with
  | cons rx rr =>
    cases rr with
    | cons rt rr =>
      cases rr
      cases rx
      cases hcv _ rt
      obtain ⟨ox, od, J, _⟩ := val_inst I hp hd
      exact PySem.W.kia_one (kitx_err (ox := ox) (ecB_ok T).2) I.kIn ⟨_, J⟩ e (fun z => nomatch z) fun tk => ⟨.bl b, H, I.kept (t' := tk) fun _ _ z => z, rfl, q⟩
def tVf (K : PySem.W.Frag) (n : Str) (te : TE) : TE := fun σ H Q => te σ H fun x H1 => ∃ (p D dd : Addr) (fs : List (Str × V)) (v : V), x = .ref p ∧ H1 p = some (exo p D (some dd)) ∧ H1 dd = some (exd dd fs) ∧ ecB K D = true ∧ PySem.W.findIn K (.ref D) n = some none ∧ fs.lookup n = some v ∧ Q v H1
end
section
variable {X : Cx} {a : Addr} {oe : Obj} {cls : Value} {d : Option Addr}
/-- in the rest behind the try: the held error, or one that is a value -/
def rIsHV (K : PySem.W.Frag) (a : Addr) (cls : Value) (d : Option Addr) : List V → Hp → VK → Prop := fun xs H Q => rIsH K a cls d xs H Q ∨ rIsV K xs H Q
theorem call_isHV (hz : Zc cls d oe) (hf : ∃ vs, oe.data = .fields vs) : CallR (heldX X a oe) (.builtin "isinstance") (rIsHV X.K a cls d) := CallR.or (call_isH hz hf) call_isV
def tHVf (K : PySem.W.Frag) (a : Addr) (cls : Value) (d : Option Addr) (n : Str) (te : TE) : TE := fun σ H Q => te σ H fun x H1 => (∃ (D dd : Addr) (fs : List (Str × V)) (v : V), x = .ref a ∧ cls = .ref D ∧ d = some dd ∧ H1 dd = some (.xd fs) ∧ ecB K D = true ∧ PySem.W.findIn K (.ref D) n = some none ∧ fs.lookup n = some v ∧ Q v H1) ∨
  ∃ (p D dd : Addr) (fs : List (Str × V)) (v : V), x = .ref p ∧ H1 p = some (exo p D (some dd)) ∧ H1 dd = some (exd dd fs) ∧ ecB K D = true ∧ PySem.W.findIn K (.ref D) n = some none ∧ fs.lookup n = some v ∧ Q v H1
theorem pe_hvf {e : Expr} {te : TE} {pos : Pos} {n : Str} (hz : Zc cls d oe) (hf : ∃ vs, oe.data = .fields vs) (he : PE (heldX X a oe) e te) (hb : attributeBase e n X.env (eval e X.env) = eval e X.env := by rfl) :
    PE (heldX X a oe) (.Attribute e n pos) (tHVf X.K a cls d n te) := by
  constructor
  intro pins s σ H Q I h
  refine attr_of hb (thn (he.run pins s σ H _ I h) fun u s1 hh => ?_)
  obtain ⟨x, H1, I1, rx, hh⟩ := hh
  rcases hh with ⟨D, dd, fs, v, rfl, rfl, rfl, hd, T, hno, l, q⟩ | ⟨p, D, dd, fs, v, rfl, hp, hd, T, hno, l, q⟩
  · cases rx
    obtain ⟨od, J, lk⟩ := held_inst hz hf I1 hd
    obtain ⟨u, ru, hu⟩ := lk n v l
    have C := (ecB_ok T).1
    exact HandSPX.exc_get I1.kIn J C.ga C.gg C.exC (PySem.W.findObj_own C.hdC hno rfl hu) (handed_of ru) ⟨v, H1, I1.tok _, ru, q⟩
  · cases rx
    obtain ⟨ox, od, J, lk⟩ := val_inst I1 hp hd
    obtain ⟨u, ru, hu⟩ := lk n v l
    have C := (ecB_ok T).1
    exact HandSPX.exc_get I1.kIn J C.ga C.gg C.exC (PySem.W.findObj_own C.hdC hno rfl hu) (handed_of ru) ⟨v, H1, I1.tok _, ru, q⟩
end
/-! ### their readings over data -/
section
variable {c : Fc} {Γ : List Sl} {n : Nat} {k : Kd} {te : TE} {ta : TA} {N : Nd}
theorem lookup_data {c : Wc} {av : Addr → Prop} {H : Hp} {f : Str} {d : Dt} : ∀ {fs : List (Str × V)} {ns : List Str} {ds : List Dt}, fs.map (·.1) = ns → DaAll c av H (fs.map (·.2)) ds → (ns.zip ds).lookup f = some d → ∃ v, fs.lookup f = some v ∧ Da c av H v d
  | [], _, _, e, h, l => by
    cases e
    cases h
    cases l
  | (g, v) :: fs, _, _, e, h, l => by
    cases e
    cases h with
    | cons h1 h2 =>
      rw [List.map_cons, List.zip_cons_cons] at l
      simp only [List.lookup] at l ⊢
      split at l
      · cases l
        exact ⟨v, rfl, h1⟩
      · exact lookup_data rfl h2 l
end
end
/-! #### Y -/
section
/-! ### a def that gets a lambda, calls it in a try, and holds the error that it raises -/
theorem takes_len {X : Cx} {W : WX} (t : Takes X W) : Takes X (fun cls d σ H => σ.length = X.N.length → W cls d σ H) := by
  intro u s' x
  obtain ⟨a, B, sI, pins, σ, H, cls, d, e, I, nb, up, sky, na, os, ag, w⟩ := x
  exact t u s' ⟨a, B, sI, pins, σ, H, cls, d, e, I, nb, up, sky, na, os, ag, w I.len⟩
/-- where the held error goes -/
def Eh (K : PySem.W.Frag) (CS : Addr) (i j len : Nat) (k : Addr → Value → Option Addr → TS) (Q : VK) : XK := fun cls d H' => ∀ σ' : L2.St, σ'.length = len → wKeep K (.ref CS) i j k (fun _ _ _ _ => False) { nx := fun _ H' => Q .non H', rt := Q } cls d σ' H'
/-- what such a def makes of a lambda: wr is what it makes of the lambda's value -/
def TTh (K : PySem.W.Frag) (CS : Addr) (i j len : Nat) (k : Addr → Value → Option Addr → TS) (wr : TE → TE) : (XK → Hp → VK → Prop) → Hp → VK → Prop := fun tl H Q =>
  ∀ σ : L2.St, σ.length = len → wr (fun _ H1 Q1 => tl (Eh K CS i j len k Q) H1 Q1) σ H Q
abbrev tNever : TS := fun _ _ _ => False
theorem pss_never {X : Cx} {st : List Stmt} : PSs X st tNever := ⟨fun _ _ _ _ _ _ h => h.elim⟩
section
variable {X : Cx} {Ng : List Str} {x a q ex n y : Str} {sg : Scope} {g CS : Addr} {cdg : Value} {i j : Nat} {st1 : Stmt} {e0 : Expr} {rest : List Stmt} {pr np p1 p2 p3 pos pos' : Pos} {k : Addr → Value → Option Addr → TS} {wr : TE → TE}
abbrev hearX (X : Cx) (Ng : List Str) (x : Str) (sg : Scope) (g : Addr) (cdg : Value) (s : Shared) (H : Hp) : Cx := (cxOf C8.CX0 X.prog X.w X.K X.mg X.base Ng x sg g cdg X.A X.stack s H C8.E0).nox
theorem heard_gives (hN : Ng.Nodup) (hi : Ng[i]? = some n) (hj : Ng[j]? = some y) (hij : i ≠ j) (hj0 : j ≠ 0) (hln : sg.names.lookup n = some .local) (hly : sg.names.lookup y = some .local) (hge : sg.names.lookup ex = some .globalImplicit) (hme : X.mg ex = some (.ref CS)) (hde : (ex == ("__debug__" : Str)) = false)
    (hdn : (n == ("__debug__" : Str)) = false) (hcn : (n == ("__classdict__" : Str)) = false)
    (h1 : ∀ s H, PS (hearX X Ng x sg g cdg s H) st1 (tAsg (tC .non) (gName j)))
    (hsw : ∀ s H, swapsWith (.Name n p2) (some (.Name y p1)) p3.line (hearX X Ng x sg g cdg s H).env = pure false)
    (hwr : ∀ s H (pn : List (Addr × Obj)) (xe : Value → Shared → Prop) (te : TE), (∀ q1 q2, PE ((hearX X Ng x sg g cdg s H).tr pn xe) (.Call (.Name a q1) [] [] q2) te) → PE ((hearX X Ng x sg g cdg s H).tr pn xe) e0 (wr te))
    (hmono : ∀ (te te' : TE) (σ : L2.St) (H : Hp) (Q : VK), (∀ Q', te σ H Q' → te' σ H Q') → wr te σ H Q → wr te' σ H Q)
    (hk : ∀ s H (b : Addr) (oe : Obj) (cls : Value) (d : Option Addr), Zc cls d oe → (∃ vs, oe.data = .fields vs) → PSs (heldX (hearX X Ng x sg g cdg s H) b oe) rest (k b cls d)) :
    LamX.GivesTo X Ng x sg g cdg (st1 :: .Try [.Return (some e0) pr] [.ExceptHandler (some (.Name ex np)) (some n) [.Assign [.Name y p1] (.Name n p2) p3] pos'] [] [] pos :: rest) a q (TTh X.K CS i j Ng.length k wr) := by
  intro f c' s H Q tl act hc h
  refine ⟨_, pss_cons (h1 s H) (pss_keep (X := hearX X Ng x sg g cdg s H) (c := .ref CS) (i := i) (j := j) (Wout := fun _ _ _ _ => False) (u := tNever) (k := k)
    (tb := fun W D σ H => ∃ Ech : XK, (∀ cls d σ' H', Ech cls d H' → σ'.length = Ng.length → W cls d σ' H') ∧ tRet (wr fun σZ HZ Q => σZ[0]? = some (some (.ref f)) ∧ HZ c' = some (LamX.CodeO c' q) ∧ tl Ech HZ Q) D σ H)
    rfl rfl hN hi hj hij hln hly ⟨hge, hde, .inl hme⟩ LamX.takes0 hdn hcn (hsw s H) ?_ pss_never (hk s H)), ?_⟩
  · intro W pn xe tk _
    constructor
    intro pins s' σ H' D I h'
    obtain ⟨Ech, hW, h3⟩ := h'
    have hp := hwr s H pn xe _ fun q1 q2 => act _ pn xe Ech q1 q2 (takes_len tk) (fun cls d σ' H' e => hW cls d σ' H' e)
    exact (pss_one (ps_ret (pos := pr) hp)).run pins s' σ H' D I h3
  · have hl : (L2.start Ng [V.ref f]).length = Ng.length := by
      have : 0 < Ng.length := by
        cases Ng with
        | nil => simp at hi
        | cons _ _ => simp
      unfold L2.start
      simp
      omega
    have h0 : ((L2.start Ng [V.ref f]).set j (some .non))[0]? = some (some (V.ref f)) := by
      rw [List.getElem?_set_ne hj0]
      rfl
    refine ⟨Eh X.K CS i j Ng.length k Q, fun cls d σ' H' e hl => e σ' hl, ?_⟩
    exact hmono _ _ _ _ _ (fun Q' z => ⟨h0, hc, z⟩) (h _ (by rw [List.length_set]; exact hl))
end
end
/-! #### 1 -/
section
/-- a def that may raise, called where it does not -/
theorem passX0 {X : Cx} : Passes (L2.CX X.prog X.w) X E0 := fun _ _ _ _ _ _ _ h => by
  obtain ⟨_, _, _, _, _, _, _, _, _, _, _, _, z⟩ := h
  exact z.elim
/-- .. called in the body of a lambda, or of a def that lets errors out -/
theorem passE {X : Cx} {E : XK} (tk : Takes X (fun cls d _ H => E cls d H)) : Passes (L2.CX X.prog X.w) X E := passes_call tk fun _ _ _ _ h => h
section
variable {P : Program} {w : World} {K : PySem.W.Frag} {mg : Str → Option Value} {T : List (Addr × Str)} {base : Heap} {x qual : Str} {params : Arguments} {body : List Stmt} {scope : Scope} {dvs : List V} {kws : List (Str × V)} {f : Addr} {fd : FuncData}
/-- a maker's code object -/
theorem maker_code (F : FunD K x qual params body scope dvs kws f fd) {p : He.Defn} (hp : He.fAd K p = f) : fd.code = .ref (He.cT K p).1 := by
  obtain ⟨oc, od, dV, kV, doc, pm, an, cdv, ct, osl, rfl, lk, hcd, _, _⟩ := F.ex
  obtain ⟨c, rfl⟩ := He.codeIn_ref hcd
  have e := He.codeOf_eq (K := K) (p := p) (c := c) (by rw [hp]; exact lk) rfl
  show Value.ref c = .ref (He.codeOf K p)
  rw [e]
end
/-- x(lambda: body), x a def of the text -/
theorem pe_hear {X : Cx} {T : List (Addr × Str)} {TT : (XK → Hp → VK → Prop) → Hp → VK → Prop} {x a : Str} {st : Stmt} {f c P : Addr} {fd : FuncData} {k : Nat} {Ng : List Str} {pm : Arguments} {body : Expr} {scope : Scope} {t : XK → TE} {p lpos pos : Pos} (F : Fd X.K x x st f fd) (hm : X.mg x = some (.ref f)) (hb : Binds X.K fd [a] [])
    (Sg : FnScope Ng [a] (defScope st)) (hNg : Ng[0]? = some a) (hva : Vis (defScope st) a) (hG : ∀ cdg, LamX.GivesTo X Ng x (defScope st) f cdg (defBody st) a (X.env.qual ++ "<lambda>") TT)
    (TB : LamX.TabB X.base X.mg c P) (hcode : X.env.code = .ref c) (hmT : (P, X.env.qual ++ "<lambda>") ∈ T) (hu : ∀ p ∈ T, p.1 = P → p.2 = X.env.qual ++ "<lambda>") (hr : Room (k + 2) X.A) (L : LamX.LamS X.env.scope scope)
    (hbody : ∀ (A : Around) (outer : List Env) (s : Shared) (H : Hp) (E : XK) (f c' : Addr), Room k (A.deeper (LamX.lamEnv X scope s.heap.objs.size f c')) → PE (LamX.lamCx X A outer s H E scope f c') body (t E)) (hg : Gl X x := by rfl)
    (hdef : defaultsOf pm X.env = ([], []) := by rfl)
    (hbind : ∀ (q : Str) (cl : List (Str × Addr)) (m cv ctv : Value), bindArgs (PySem.W.kla_fn "<lambda>" q pm body scope cl m cv ctv) ⟨[], []⟩ = pure [] := by intros; rfl)
    (hdb : (x == ("__debug__" : Str)) = false := by decide) (hd : (a == ("__debug__" : Str)) = false := by decide) (hcd : (a == ("__classdict__" : Str)) = false := by decide) :
    PE X (.Call (.Name x p) [.Lambda pm body scope lpos] [] pos) (LamX.tLam T TT t) := by
  have kp := F.kp
  obtain ⟨oc, od, dV, kV, doc, m, an, cdv, ct, osl, rfl, lk, hc, _, _⟩ := F.ex
  exact LamX.pe_lamcall hg hm kp lk hc hb Sg hNg hva (hG cdv) TB hcode hmT hu hr L hdef hbind hbody hdb hd hcd
/-! ### found.index(e) -/
end
/-! #### Q -/
section
open PySem.W (ksFn)
/-! ### defs of a class that say super(): their env holds the cell __class__ -/
/-- the scope of such a def -/
structure FnScopeS (N ps : List Str) (sc : Scope) : Prop where
  kind : sc.kind = .function
  co : sc.isCoroutine = false
  gen : sc.isGenerator = false
  nd : N.Nodup
  pre : N.take ps.length = ps
  par : ∀ x ∈ ps, sc.names.lookup x = some .local
  nocell : ∀ y ∈ sc.names, y.2 ≠ .cell
  fr : ∀ x, sc.names.lookup x = some .free → x = "__class__"
def cxOfS (CX : CXT) (P : Program) (w : World) (K : PySem.W.Frag) (mg : Str → Option Value) (base : Heap) (N : List Str) (fd : FuncData) (f : Addr) (A : Around) (outer : List Env) (s : Shared) (H : Hp) (E : XK) : Cx where
  prog := P
  w := w
  K := K
  mg := mg
  base := base
  A := A.deeper (callEnv fd s.heap.objs.size f)
  N := N
  s_0 := s
  H_0 := H
  env := callEnv fd s.heap.objs.size f
  outer := outer
  stack := callEnv fd s.heap.objs.size f :: outer
  ex := []
  calm := true
  fn := fun _ => false
  pn := []
  xe := fun e s' => wpAny (model P w) (A.deeper (callEnv fd s.heap.objs.size f)) (leaving (callEnv fd s.heap.objs.size f) e) (fun _ s'' => CX outer H s E e s'') (fun e' s'' => CX outer H s E e' s'') s'
section
variable {CX : CXT} {P : Program} {w : World} {K : PySem.W.Frag} {mg : Str → Option Value} {base : Heap} {N ps : List Str} {f : Addr} {A : Around} {outer : List Env} {s : Shared} {H : Hp} {E : XK} {name qual : Str} {params : Arguments} {body : List Stmt} {scope : Scope} {dV kV doc pm : Value} {an : Option Addr} {cdv ct : Value} {cc D : Addr}
theorem cls_lookup {x : Str} {c : Addr} (h : List.lookup x [(("__class__" : Str), cc)] = some c) : x = "__class__" ∧ c = cc := by
  simp only [List.lookup] at h
  split at h
  · rename_i e
    exact ⟨by simpa using e, (Option.some.inj h).symm⟩
  · cases h
theorem lookup_nd {y : Str} {u : Value} : ∀ {l : List (Str × Value)}, (l.map (·.1)).Nodup → (y, u) ∈ l → l.lookup y = some u
  | (a, b) :: l, h, hm => by
    rw [List.map_cons, List.nodup_cons] at h
    rcases List.mem_cons.mp hm with e | hm'
    · cases e
      simp [List.lookup]
    · have hne : (y == a) = false := by
        have : y ≠ a := fun z => h.1 (by rw [← z]; exact List.mem_map.mpr ⟨(y, u), hm', rfl⟩)
        simpa using this
      simp only [List.lookup, hne]
      exact lookup_nd h.2 hm'
theorem fst_zip : ∀ (ps : List Str) (us : List Value), (ps.zip us).map (·.1) = ps.take us.length
  | [], us => by simp
  | p :: ps, [] => by simp
  | p :: ps, u :: us => by simp [fst_zip ps us]
theorem lookup_zip {ps : List Str} {us : List Value} {y : Str} {u : Value} {i : Nat} (nd : ps.Nodup) (h1 : ps[i]? = some y) (h2 : us[i]? = some u) : (ps.zip us).reverse.lookup y = some u := by
  refine lookup_nd ?_ ?_
  · rw [List.map_reverse, (List.reverse_perm _).nodup_iff]
    exact List.Nodup.sublist (by
      rw [fst_zip]
      exact List.take_sublist _ _) nd
  · rw [List.mem_reverse]
    exact List.mem_of_getElem? (i := i) (by rw [List.getElem?_zip_eq_some]; exact ⟨h1, h2⟩)
theorem inv_startS {us : List Value} {vs : List V} {h1 : Heap} {tk : Nat} {cl : Value} {cld : Option Addr} {csl : Array (Option Value)} (S : FnScopeS N ps scope) (hd : A.handled = none) (e0 : Env0 P w K mg base A outer s H) (hl : vs.length = ps.length) (r : Vals vs us)
    (hc : K.lookup cc = some ⟨cl, cld, .cell (some (.ref D)), csl⟩)
    (hns : h1.Ns s.heap.objs.size (fun x => (ps.zip us).reverse.lookup x)) (hk : ∀ b o, s.heap.get? b = some o → h1.get? b = some o) :
    Inv (cxOfS CX P w K mg base N (ksFn name qual params body scope dV kV doc pm an cdv ct cc) f A outer s H E) [] (start N vs) H { s with heap := h1, toks := tk } := by
  have hpl : ps.length ≤ N.length := by have := congrArg List.length S.pre; rw [List.length_take] at this; omega
  have hb := e0.bs cc _ (e0.mod.kin _ _ hc)
  have noA : ∀ b : Addr, b ∉ (cxOfS CX P w K mg base N (ksFn name qual params body scope dV kV doc pm an cdv ct cc) f A outer s H E).ex := fun b z => absurd (show b ∈ ([] : List Addr) from z) (by simp)
  refine ⟨⟨e0.mod, S.kind, rfl, rfl, Nat.le_refl _, fun y z c h1 h2 => ?_, fun y hy => ?_, fun y c z _ => (by cases z), fun _ => hd, Around.frames_deeper e0.frames, .inr ⟨rfl, rfl⟩, fun b z => absurd z (noA b), e0.bs, e0.bsz, fun b _ _ => noA b, fun b z => absurd z (noA b), e0.funs, e0.frf⟩,
    rfl, e0.bare, Un.kept hk, ⟨_, hns, fun i y v h1 h2 h3 => ?_⟩, fun y c h => ?_, e0.hok.fresh (Nat.le_refl _), fun y c h => ?_, fun p hp => absurd (show p ∈ ([] : List (Addr × Obj)) from hp) (by simp), e0.hok.kept hk, ?_⟩
  · rw [(cls_lookup h1).1, (cls_lookup h2).1]
  · rcases hy with hy | hy
    · exact absurd rfl (S.nocell _ (PySem.mem_of_lookup (show scope.names.lookup y = some .cell from hy)))
    · have e := S.fr y hy
      subst e
      exact ⟨cc, rfl⟩
  · have hi : i < vs.length := by
      unfold L2.start at h2
      by_cases hi : i < vs.length
      · exact hi
      · rw [List.getElem?_append_right (by simpa using hi)] at h2
        rw [List.getElem?_replicate] at h2
        split at h2 <;> cases h2
    have ha : vs[i]? = some v := by
      unfold L2.start at h2
      rw [List.getElem?_append_left (by simpa using hi), List.getElem?_map] at h2
      cases e : vs[i]? with
      | none => rw [e] at h2; cases h2
      | some a => rw [e] at h2; cases h2; rfl
    obtain ⟨u, hu, rv⟩ := r.get ha
    have hp : ps[i]? = some y := by
      rw [← S.pre, List.getElem?_take_of_lt (by omega)]; exact h1
    have ndP : ps.Nodup := by rw [← S.pre]; exact S.nd.sublist (List.take_sublist _ _)
    exact ⟨u, rv, .inl ⟨S.par y (List.mem_of_getElem? hp), lookup_zip ndP hp hu⟩⟩
  · obtain ⟨_, rfl⟩ := cls_lookup h
    exact ⟨_, _, hk _ _ hb.1, rfl⟩
  · obtain ⟨_, rfl⟩ := cls_lookup h
    exact hb.2
  · unfold L2.start
    show _ = N.length
    rw [List.length_append, List.length_map, List.length_replicate]
    omega
/-- statements at the def's own code -/
structure PSsA (X : Cx) (c : Code) (st : List Stmt) (t : TS) : Prop where
  run : ∀ (pins : List (Addr × Obj)) (s : Shared) (σ : L2.St) (H : Hp) (D : Ends), Inv X pins σ H s → t D σ H → PySem.wpAt (model X.prog X.w) X.A c (execs st X.env) (L2.SP X pins D) X.xe s
structure PEA (X : Cx) (c : Code) (e : Expr) (t : TE) : Prop where
  run : ∀ (pins : List (Addr × Obj)) (s : Shared) (σ : L2.St) (H : Hp) (Q : VK), Inv X pins σ H s → t σ H Q → PySem.wpAt (model X.prog X.w) X.A c (eval e X.env) (EP X pins σ Q) X.xe s
theorem PSs.at {X : Cx} {c : Code} {st : List Stmt} {t : TS} (h : PSs X st t) : PSsA X c st t := ⟨fun pins s σ H D I q => PySem.wpAt_of_wpAny (h.run pins s σ H D I q)⟩
theorem PE.at {X : Cx} {c : Code} {e : Expr} {t : TE} (h : PE X e t) : PEA X c e t := ⟨fun pins s σ H Q I q => PySem.wpAt_of_wpAny (h.run pins s σ H Q I q)⟩
/-- e; .., e at the def's own code -/
theorem psa_expr {X : Cx} {c : Code} {e : Expr} {t : TE} {u : TS} {rest : List Stmt} {pos : Pos} (he : PEA X c e t) (hr : PSs X rest u) (hi : interactive X.env = false) (hs : swapsWith e none pos.line X.env = pure false := by rfl) : PSsA X c (.Expr e pos :: rest) (tSeq (tDrop t) u) := by
  refine ⟨fun pins s σ H D I h => ?_⟩
  refine ks_wpAt_execs_cons (ks_wpAt_Expr_any (ks_wpAt_mono (he.run pins s σ H _ I h) (fun v s1 q => ?_) fun _ _ z => z) hi hs)
  obtain ⟨x, H1, I1, _, q⟩ := q
  exact PySem.wpAt_of_wpAny (hr.run pins s1 σ H1 D I1 q)
theorem psa_ret {X : Cx} {c : Code} {e : Expr} {t : TE} {pos : Pos} (he : PEA X c e t) : PSsA X c [.Return (some e) pos] (tRet t) := by
  refine ⟨fun pins s σ H D I h => ?_⟩
  refine ks_wpAt_execs_cons (ks_wpAt_Return_some (ks_wpAt_mono (he.run pins s σ H _ I h) (fun v s1 q => ?_) fun _ _ z => z))
  obtain ⟨x, H1, I1, r, q⟩ := q
  exact ⟨x, σ, H1, I1, r, q⟩
theorem pea_op {X : Cx} {c : Code} {a b : Expr} {ta tb : TE} {op : Operator} {r : R2} {pos : Pos} (ho : OpR X (binaryOp op) r) (ha : PEA X c a ta) (hb : PE X b tb) : PEA X c (.BinOp a op b pos) (tOp r ta tb) := by
  refine ⟨fun pins s σ H Q I h => ?_⟩
  refine ks_wpAt_BinOp (ks_wpAt_mono (ha.run pins s σ H _ I h) (fun v s1 q => ?_) fun _ _ z => z)
  obtain ⟨x, H1, I1, r1, q⟩ := q
  refine thn (hb.run pins s1 σ H1 _ I1 q) fun u s2 q => ?_
  obtain ⟨y, H2, I2, r2, q⟩ := q
  exact ho pins s2 σ H2 x y v u Q I2 r1 r2 q
/-- a def that says super(), by its body -/
theorem fnG_ofS {b : Bool} {k : Nat} {oc : Value} {od : Option Addr} {osl : Array (Option Value)} {sp : Sp} {cl : Value} {cld : Option Addr} {csl : Array (Option Value)}
    (lk : K.lookup f = some ⟨oc, od, .func (ksFn name qual params body scope dV kV doc pm an cdv ct cc), osl⟩) (hcd : PySem.W.codeIn K cdv qual = true) (hc : K.lookup cc = some ⟨cl, cld, .cell (some (.ref D)), csl⟩) (S : FnScopeS N ps scope)
    (len : ∀ vs H Q E, sp vs H Q E → vs.length = ps.length)
    (hbody : ∀ (A : Around) (outer : List Env) (s : Shared) (H : Hp) (vs : List V) (Q : VK) (E : XK), RoomG b k (A.deeper (callEnv (ksFn name qual params body scope dV kV doc pm an cdv ct cc) s.heap.objs.size f)) → sp vs H Q E →
      ∃ t, PSsA (cxOfS CX P w K mg base N (ksFn name qual params body scope dV kV doc pm an cdv ct cc) f A outer s H E) (.func body (callEnv (ksFn name qual params body scope dV kV doc pm an cdv ct cc) s.heap.objs.size f)) body t ∧ t { nx := fun _ H' => Q .non H', rt := Q } (L2.start N vs) H) :
    FnG b P w K mg base CX (k + 1) f (ksFn name qual params body scope dV kV doc pm an cdv ct cc) ps sp := by
  constructor
  · exact len
  intro A outer s H args us vs Q E hr e0 hb r hsp
  have hlen := len _ _ _ _ hsp
  have hin : K.In s.heap := e0.mod.kin.keeps fun b o e => (e0.bs b o e).1
  have hlim : s.heap.NoLimit := e0.mod.nolimit.keeps fun b o e => (e0.bs b o e).1
  refine ks_codeAny_call_defAt hr.rm.depth (hin _ _ lk) rfl hlim (PySem.W.codeRec_of hin hcd) rfl hb S.nocell ?_ (fun h1 hns hk => ?_) S.co S.gen S.kind
  · rintro ⟨n, v⟩ hy
    exact S.par n (List.of_mem_zip hy).1
  obtain ⟨t, ht, hq⟩ := hbody A outer s H vs Q E (hr.deeper _) hsp
  have I := inv_startS (CX := CX) (E := E) (name := name) (qual := qual) (params := params) (body := body) (dV := dV) (kV := kV) (doc := doc) (pm := pm) (an := an) (cdv := cdv) (ct := ct) (f := f) (tk := s.toks + (ps.zip us).length) S hr.rm.hd e0 hlen r hc hns hk
  refine ks_wpAt_mono (ht.run [] _ (L2.start N vs) H _ I hq) ?_ ?_
  · intro fl s' hs
    cases fl with
    | ret u =>
      obtain ⟨v, σ', H', J, rv, q⟩ := hs
      exact ⟨v, H', J.os, J.bare, J.base, J.hok, rv, q⟩
    | next =>
      obtain ⟨σ', H', J, q⟩ := hs
      exact ⟨V.non, H', J.os, J.bare, J.base, J.hok, rfl, q⟩
    | brk =>
      obtain ⟨_, _, _, q⟩ := hs
      exact q.elim
    | cont =>
      obtain ⟨_, _, _, q⟩ := hs
      exact q.elim
  · intro e s' hs
    exact hs
end
end
/-! #### R -/
section
open ClX
open PySem.W (ksFn)
theorem clsIn_obj {K : PySem.W.Frag} {C : Addr} {cd : ClassData} (h : PySem.W.clsIn K C = some cd) : ∃ o, K.lookup C = some o ∧ o.data = .cls cd := by
  unfold PySem.W.clsIn at h
  split at h
  · cases h
    exact ⟨_, by assumption, rfl⟩
  · cases h
def ftIn (K : PySem.W.Frag) (g : Addr) : Bool := match K.lookup g with
  | some o => o.cls == .type "function"
  | none => false
theorem fnIn_obj {K : PySem.W.Frag} {g : Addr} (h : ftIn K g = true) : ∃ o, K.lookup g = some o ∧ o.cls = .type "function" := by
  unfold ftIn at h
  split at h
  · exact ⟨_, by assumption, by simpa using h⟩
  · cases h
/-- m, asked of the class D's super() for an instance of C, is the def at g -/
structure SupM (K : PySem.W.Frag) (C D : Addr) (m : Str) (g : Addr) : Prop where
  cls : (PySem.W.clsIn K C).isSome = true
  clsD : (PySem.W.clsIn K D).isSome = true
  up : PySem.W.ks_superIn K C D m = some (some (.ref g))
  fi : PySem.W.fnIn K g = true
  ft : ftIn K g = true
  op : PySem.W.nsIn K cStatics "thirdparty.any" = some none
  sub : PySem.W.subIn K (.ref C) (.ref D) = some true
  nm : (m == ("__class__" : Str)) = false
/-- what the def's env knows: its class is D, its first parameter is x0 -/
structure EnvS (X : Cx) (D : Addr) (x0 : Str) (i0 : Nat) : Prop where
  ks : X.env.kindOf "super" = some .globalImplicit
  kc : X.env.kindOf "__class__" = some .free
  fn : ∃ f oc od fd osl ar, X.env.func = some f ∧ X.K.lookup f = some ⟨oc, od, .func fd, osl⟩ ∧ (fd.params.posonlyargs ++ fd.params.args).head? = some ar ∧ ar.arg = x0
  co : ∃ cda oc od vs osl file tf, X.env.code = .ref cda ∧ X.K.lookup cda = some ⟨oc, od, .fields vs, osl⟩ ∧ vs[2]? = some (.str file tf) ∧ ((X.prog.main.file : Str) == file) = true
  top : (X.prog.main.scope.names.lookup ("super" : Str)).isSome = false
  noS : X.mg "super" = none
  cc : ∃ cc oc od osl, X.env.cells.lookup ("__class__" : Str) = some cc ∧ X.K.lookup cc = some ⟨oc, od, .cell (some (.ref D)), osl⟩
  at0 : X.N[i0]? = some x0
  vis : X.env.kindOf x0 = some .local
/-- super().m(e, ..) -/
def tSup (K : PySem.W.Frag) (D : Addr) (i0 : Nat) (m : Str) (g : Addr) (sp : Sp) (E : XK) (t : TA) : TE := fun σ H Q => ∃ x C dx fs, σ[i0]? = some (some (.ref x)) ∧ H x = some (.ins C dx fs) ∧ SupM K C D m g ∧ t σ H fun vs H2 => sp (.ref x :: vs) H2 Q E
/-- .. up to the bound method -/
theorem sup_got {X : Cx} {i0 : Nat} {D g : Addr} {m x0 : Str} {pins : List (Addr × Obj)} {s : Shared} {σ : L2.St} {H : Hp} {x C dx cc : Addr} {fs : List (Str × V)} {ar : Arg} {o1 : Value} {o2 : Option Addr} {o3 : Array (Option Value)} {pl : Sem Bool} {W : Value × List Value → Shared → Prop} (hE : EnvS X D x0 i0) (I : Inv X pins σ H s) (hσ : σ[i0]? = some (some (.ref x))) (hH : H x = some (.ins C dx fs)) (M : SupM X.K C D m g) (hf4 : ar.arg = x0)
    (hcc1 : X.env.cells.lookup ("__class__" : Str) = some cc) (hcc2 : X.K.lookup cc = some ⟨o1, o2, .cell (some (.ref D)), o3⟩)
    (hq : ∀ (q : Addr) (s3 : Shared), X.base.get? q = none → Inv X ((q, PySem.W.methodObj (.ref g) (.ref x)) :: pins) σ H s3 → W (.ref q, []) s3) :
    wpAny (model X.prog X.w) X.A (loadName X.env "super") (fun g s₁ => g = .type "super" ∧ wpAny (model X.prog X.w) X.A (loadName X.env "__class__") (fun cls s₂ => wpAny (model X.prog X.w) X.A (loadName X.env ar.arg) (fun self s₃ =>
      wpAny (model X.prog X.w) X.A (isType cls) (fun b s₄ => b = true ∧ wpAny (model X.prog X.w) X.A (call (.type "super") [cls, self]) (fun ov s₁ => wpAny (model X.prog X.w) X.A (getMethod ov m pl) W X.xe s₁) X.xe s₄) X.xe s₃) X.xe s₂) X.xe s₁) X.xe s := by
  obtain ⟨mb, hb1, hb2⟩ := I.mod.blt
  have hG := I.mod.glob.keeps I.bk
  have hB := hb1.keeps I.bk
  have hsup : mb "super" = some (.type "super") := (hb2 _ (by decide)).trans PyProof.Rows.Boot.«super»
  refine PySem.W.ks_loadName_global I.ok.kind hE.ks (PySem.Calls.loadGlobal_builtin (by rw [I.ok.glob]; exact hG) hE.noS (by rw [I.ok.blt]; exact hB) hsup ⟨rfl, ?_⟩)
  refine wpAny_loadName_free I.ok.kind hE.kc hcc1 ⟨_, I.kIn _ _ hcc2, rfl⟩ ?_
  obtain ⟨mm, hn, hl⟩ := I.loc
  obtain ⟨u, ru, lk⟩ := hl i0 x0 (.ref x) hE.at0 hσ (.inl hE.vis)
  cases ru
  have hm0 : mm x0 = some (.ref x) := by
    rcases lk with ⟨_, hm⟩ | ⟨hk, _⟩
    · exact hm
    · rcases hk with hk | hk <;> (rw [hE.vis] at hk; cases hk)
  rw [hf4]
  refine wpAny_loadName_local I.ok.kind hE.vis hn hm0 ?_
  obtain ⟨cdD, hcD⟩ := Option.isSome_iff_exists.mp M.clsD
  obtain ⟨cdC, hcC⟩ := Option.isSome_iff_exists.mp M.cls
  obtain ⟨oD, hD1, hD2⟩ := clsIn_obj hcD
  obtain ⟨oC, hC1, hC2⟩ := clsIn_obj hcC
  obtain ⟨og, hg1, hg2⟩ := fnIn_obj M.ft
  have hx0 : s.heap.get? x = some (PySem.W.instObj C dx) := (show ObjOk X.prog X.w H s.heap x (.ins C dx fs) from I.hok x _ hH).2.2.2.1
  have hxC : x ≠ C := fun z => by
    have := (I.bs C oC (I.ok.mod.kin _ _ hC1)).2
    rw [← z, hH] at this
    cases this
  obtain ⟨hp, gg, dr, tk, os⟩ := s
  refine ks_wpAny_isType_cls (I.kIn _ _ hD1) hD2 ⟨rfl, ?_⟩
  refine ks_wpAny_call_super (I.kIn _ _ hD1) hD2 hx0 rfl (fun c z => by cases z) (PySem.W.looks_subIn I.kIn M.sub) (fun h₂ hso k₂ => ?_)
  have I2 : Inv X pins σ H ⟨h₂, gg, dr, tk, os⟩ := I.kept (t' := tk) k₂
  have hup : PySem.W.alongIn X.K m ((cdC.mro.dropWhile (· != .ref D)).drop 1) = some (some (.ref g)) := by
    have z := M.up
    unfold PySem.W.ks_superIn at z
    rw [hcC] at z
    exact z
  refine ks_wpAny_getMethod_super hso (PySem.W.looks_opaque I2.kIn M.op) (l₀ := cdC.mro) (fun A Q E s k q => wpAny_bind ((PySem.W.looks_clsIn I2.kIn hcC) A _ E s k (wpAny_pure q))) rfl I2.kIn hup (I2.kIn _ _ hg1) hg2 hxC M.nm ?_
  exact hq _ _ (base_none I2 (Nat.le_refl _)) (met_new (g := g) (C := x) I2)
theorem pea_super {X : Cx} {CX : CXT} {k i0 : Nat} {D g : Addr} {m x0 : Str} {sp : Sp} {E : XK} {e : Expr} {es : List Expr} {t : TA} {body : List Stmt} {p0 p1 apos pos : Pos} {pl : Sem Bool} (hE : EnvS X D x0 i0) (F : FnR X.prog X.w X.K X.mg X.base CX k g sp) (hr : Room k X.A) (hx : Passes CX X E) (ha : PA X (e :: es) t)
    (hst : starEach (e :: es) X.env = (false, eval e X.env) :: starEach es X.env := by rfl) (hpl : (backTo pos (starEach es X.env)).any (·.1) = false := by rfl)
    (ht : eval (.Call (.Attribute (.Call (.Name "super" p0) [] [] p1) m apos) (e :: es) [] pos) X.env = (do
      let ov ← attributeBase (.Call (.Name "super" p0) [] [] p1) m X.env (eval (.Call (.Name "super" p0) [] [] p1) X.env)
      standAt apos.atName
      let (f, first) ← holding [ov] (getMethod ov m pl)
      callWith pos f first (backTo pos (starEach (e :: es) X.env)) []) := by rfl) :
    PEA X (.func body X.env) (.Call (.Attribute (.Call (.Name "super" p0) [] [] p1) m apos) (e :: es) [] pos) (tSup X.K D i0 m g sp E t) := by
  refine ⟨fun pins s σ H Q I h => ?_⟩
  obtain ⟨x, C, dx, fs, hσ, hH, M, q⟩ := h
  obtain ⟨f, ofc, ofd, fd, osl, ar, hf1, hf2, hf3, hf4⟩ := hE.fn
  obtain ⟨cda, occ, ocd, vs, cosl, file, tf, hc1, hc2, hc3, hc4⟩ := hE.co
  obtain ⟨cc, o1, o2, o3, hcc1, hcc2⟩ := hE.cc
  refine ks_wpAt_MethodCall (pl := pl) ?_ ht
  refine ks_wpAt_super_base hE.ks hE.kc M.nm hf1 (I.kIn _ _ hf2) rfl hf3 hc1 (I.kIn _ _ hc2) rfl hc3 hc4 hE.top ?_
  refine sup_got hE I hσ hH M hf4 hcc1 hcc2 fun u s3 hb I3 => ?_
  refine callwith_cm I3 hb M.fi (thn (ha.run pos _ _ σ H _ I3 q) fun us s3 ⟨vs, H2, I4, rv, q2⟩ => ⟨⟨pin_at I4, I4.kIn⟩, ?_⟩) hst hpl
  exact run_cm F hr hx I4 rv q2
/-- super().m() -/
theorem pea_super0 {X : Cx} {CX : CXT} {k i0 : Nat} {D g : Addr} {m x0 : Str} {sp : Sp} {E : XK} {body : List Stmt} {p0 p1 apos pos : Pos} {pl : Sem Bool} (hE : EnvS X D x0 i0) (F : FnR X.prog X.w X.K X.mg X.base CX k g sp) (hr : Room k X.A) (hx : Passes CX X E)
    (ht : eval (.Call (.Attribute (.Call (.Name "super" p0) [] [] p1) m apos) [] [] pos) X.env = (do
      let ov ← attributeBase (.Call (.Name "super" p0) [] [] p1) m X.env (eval (.Call (.Name "super" p0) [] [] p1) X.env)
      standAt apos.atName
      let (f, first) ← holding [ov] (getMethod ov m pl)
      callWith pos f first (backTo pos (starEach [] X.env)) []) := by rfl) :
    PEA X (.func body X.env) (.Call (.Attribute (.Call (.Name "super" p0) [] [] p1) m apos) [] [] pos) (tSup X.K D i0 m g sp E tNil) := by
  refine ⟨fun pins s σ H Q I h => ?_⟩
  obtain ⟨x, C, dx, fs, hσ, hH, M, q⟩ := h
  obtain ⟨f, ofc, ofd, fd, osl, ar, hf1, hf2, hf3, hf4⟩ := hE.fn
  obtain ⟨cda, occ, ocd, vs, cosl, file, tf, hc1, hc2, hc3, hc4⟩ := hE.co
  obtain ⟨cc, o1, o2, o3, hcc1, hcc2⟩ := hE.cc
  refine ks_wpAt_MethodCall (pl := pl) ?_ ht
  refine ks_wpAt_super_base hE.ks hE.kc M.nm hf1 (I.kIn _ _ hf2) rfl hf3 hc1 (I.kIn _ _ hc2) rfl hc3 hc4 hE.top ?_
  refine sup_got hE I hσ hH M hf4 hcc1 hcc2 fun u s3 hb I3 => ?_
  refine PySem.W.callWith_M0 ⟨pin_at I3, I3.kIn⟩ M.fi ?_
  exact run_cm F hr hx I3 .nil q
end
/-! #### 10 -/
section
/-! ### attributes of an object, by its class -/
/-- how a class has the attribute: of the object itself, a constant, a property -/
inductive Atk where
  | fld
  | int (i : Int)
  | str (x : Str)
  | prop (id : Nat)
def rAt1 (sp : Nat → Sp) (f : Str) (k : Atk) (a : Addr) (fs : List (Str × V)) (H : Hp) (Q : VK) : Prop := match k with
  | .fld => ∃ v, fs.lookup f = some v ∧ Q v H
  | .int i => fs.lookup f = none ∧ Q (.int i) H
  | .str z => fs.lookup f = none ∧ Q (.str z) H
  | .prop id => sp id [.ref a] H Q E0
/-- e.f -/
def tAt (K : PySem.W.Frag) (sp : Nat → Sp) (f : Str) (cs : List (Str × Atk)) (ta : TE) : TE := fun σ H Q => ta σ H fun x H1 => ∃ a dx fs cn k, x = .ref a ∧ H1 a = some (.ins (He.ga K cn) dx fs) ∧ (cn, k) ∈ cs ∧ rAt1 sp f k a fs H1 Q
/-- a def keeps its promise, called by values -/
def FnQ (b : Bool) (P : Program) (w : World) (K : PySem.W.Frag) (mg : Str → Option Value) (base : Heap) (CX : CXT) (k : Nat) (f : Addr) (sp : Sp) : Prop :=
  ∀ (A : Around) (outer : List Env) (s : Shared) (H : Hp) (us : List Value) (vs : List V) (Q : VK) (E : XK), RoomG b k A → Env0 P w K mg base A outer s H → Vals vs us → sp vs H Q E → codeAny (model P w) A (.call (.ref f) ⟨us, []⟩) (CR CX outer P w H s Q E) s
theorem FnG.q {b : Bool} {P : Program} {w : World} {K : PySem.W.Frag} {mg : Str → Option Value} {base : Heap} {CX : CXT} {k : Nat} {f : Addr} {fd : FuncData} {ps : List Str} {sp : Sp} (F : FnG b P w K mg base CX k f fd ps sp) (hb : Binds K fd ps []) : FnQ b P w K mg base CX k f sp := by
  intro A outer s H us vs Q E hr e0 r h
  have hl : us.length = ps.length := by rw [← r.length]; exact F.len _ _ _ _ h
  have hin : K.In s.heap := e0.mod.kin.keeps fun b o e => (e0.bs b o e).1
  have bd := hb s us hin (by rw [List.append_nil]; exact hl)
  rw [List.append_nil] at bd
  exact F.run A outer s H ⟨us, []⟩ us vs Q E hr e0 bd r h
theorem FnQ.callR {b : Bool} {X : Cx} {CX : CXT} {k : Nat} {f : Addr} {sp : Sp} {E : XK} (F : FnQ b X.prog X.w X.K X.mg X.base CX k f sp) (hr : RoomG b k X.A) (hx : Passes CX X E) : CallR X (.ref f) (fun vs H Q => sp vs H Q E) := by
  intro pins s σ H vs us Q I r h
  refine wpAny_call (codeAny_mono (F X.A X.stack s H us vs Q E hr I.env0 r h) ?_)
  intro r s' hq
  cases r with
  | error e => exact hx pins σ H s e s' I hq
  | ok fl =>
    cases fl with
    | ret u => exact I.after hq
    | next => exact hq.elim
    | brk => exact hq.elim
    | cont => exact hq.elim
/-- what must be known of a class's attribute -/
def AtOk (X : Cx) (sp : Nat → Sp) (f : Str) (cn : Str) (k : Atk) : Prop := Cls X.K (He.ga X.K cn) ∧ match k with
  | .fld => NoAttr X.K (He.ga X.K cn) f
  | .int i => ∃ u, Con X.K (He.ga X.K cn) f (.int i) u
  | .str z => ∃ u, Con X.K (He.ga X.K cn) f (.str z) u
  | .prop id => ∃ (b : Bool) (p g : Addr) (k : Nat), PropOf X.K (He.ga X.K cn) f p g ∧ FnQ b X.prog X.w X.K X.mg X.base CX0 k g (sp id) ∧ RoomG b (k + 1) X.A
theorem RoomG.in1 {b : Bool} {k : Nat} {A : Around} (r : RoomG b (k + 1) A) : RoomG b k A.in1 := ⟨r.rm.in1, r.gd⟩
section
variable {X : Cx} {sp : Nat → Sp} {f : Str} {cs : List (Str × Atk)} {ta : TE} {e : Expr} {pos : Pos}
theorem getpropG {b b' : Bool} {k : Nat} {C p g a dx : Addr} {fs : List (Str × V)} {s0 : Sp} {pins : List (Addr × Obj)} {σ : L2.St} {H : Hp} {s : Shared} {Q : VK} {E' : Value → Shared → Prop} (I : Inv X pins σ H s) (ea : H a = some (.ins C dx fs)) (c : Cls X.K C) (hp : PropOf X.K C f p g)
    (F : FnQ b X.prog X.w X.K X.mg X.base CX0 k g s0) (hr : RoomG b (k + 1) X.A) (h : s0 [.ref a] H Q E0) :
    wpAny (model X.prog X.w) X.A (getAttr (.ref a) f b') (EP X pins σ Q) E' s := by
  obtain ⟨mA, O, _, _, _, _⟩ := ins_get I.hok ea
  obtain ⟨od, J, _⟩ := O.look
  obtain ⟨rest, hrec⟩ := hp.rec_
  have I1 := I.tok (s.toks + 1)
  have hc : (PySem.W.clsIn X.K C).isSome = true := by
    obtain ⟨cd, hc, _⟩ := PySem.W.any_some c.hd
    rw [hc]
    rfl
  refine PySem.W.get_bind I.kIn J (PySem.W.plainGet_of (c.get f)).1 (PySem.W.findObj_data hc hp.at_ hp.get hp.tak) (PySem.W.plainGet_of (c.get f)).2 (wpAny_call (PySem.W.prop_get (s := { s with toks := s.toks + 1 }) I.kIn hrec ?_))
  refine codeAny_mono (F X.A.in1 X.stack { s with toks := s.toks + 1 } H [.ref a] [.ref a] Q E0 hr.in1 I1.env0.in1 (.cons rfl .nil) h) fun r s' hq => ?_
  cases r with
  | error er => exact False.elim hq
  | ok fl =>
    cases fl with
    | ret u =>
      obtain ⟨v, H', I3, rv, q3⟩ := I1.after hq
      show wpAny _ _ (handedOut u) _ _ _
      rw [PySem.W.handedOut_of (handed_of rv)]
      exact wpAny_pure ⟨v, H', I3, rv, q3⟩
    | next => exact False.elim hq
    | brk => exact False.elim hq
    | cont => exact False.elim hq
theorem pe_at (he : PE X e ta) (hc : ∀ x ∈ cs, AtOk X sp f x.1 x.2) (hab : attributeBase e f X.env (eval e X.env) = eval e X.env := by rfl) : PE X (.Attribute e f pos) (tAt X.K sp f cs ta) := by
  refine ⟨fun pins s σ H Q I h => ?_⟩
  refine attr_of hab (thn (he.run pins s σ H _ I h) fun u s1 ⟨x, H1, I1, rx, a, dx, fs, cn, k, ex, ea, hm, q⟩ => ?_)
  subst ex
  obtain rfl : u = Value.ref a := rx
  obtain ⟨c, ho⟩ := hc _ hm
  cases k with
  | fld =>
    obtain ⟨v, l, q⟩ := q
    exact getattr_ok I1 ea c ho l fun u' s2 I2 ru => ⟨v, H1, I2, ru, q⟩
  | int i =>
    obtain ⟨u, ho⟩ := ho
    exact getcon_ok I1 ea c ho q.1 fun s2 I2 => ⟨_, H1, I2, ho.rel, q.2⟩
  | str i =>
    obtain ⟨u, ho⟩ := ho
    exact getcon_ok I1 ea c ho q.1 fun s2 I2 => ⟨_, H1, I2, ho.rel, q.2⟩
  | prop id =>
    obtain ⟨b, p, g, k, hp, F, hr⟩ := ho
    exact getpropG I1 ea c hp F hr q
end
/-! ### methods of an object, by its class -/
def tMe (K : PySem.W.Frag) (sp : Nat → Sp) (E : XK) (m : Str) (cs : List (Str × Nat)) (ta : TE) (t : TA) : TE := fun σ H Q => ta σ H fun x H1 => ∃ a dx fs cn id, x = .ref a ∧ H1 a = some (.ins (He.ga K cn) dx fs) ∧ (cn, id) ∈ cs ∧ fs.lookup m = none ∧ t σ H1 fun vs H2 => sp id (.ref a :: vs) H2 Q E
def MeOk (X : Cx) (sp : Nat → Sp) (E : XK) (m : Str) (cn : Str) (id : Nat) : Prop := Cls X.K (He.ga X.K cn) ∧ ∃ (b : Bool) (CX : CXT) (k : Nat) (f : Addr), Meth X.K (He.ga X.K cn) m f ∧ FnQ b X.prog X.w X.K X.mg X.base CX k f (sp id) ∧ RoomG b k X.A ∧ Passes CX X E
section
variable {X : Cx} {sp : Nat → Sp} {E : XK} {m : Str} {cs : List (Str × Nat)} {ta : TE} {t : TA} {o e : Expr} {es : List Expr} {pos apos : Pos} {pl : Sem Bool}
theorem pe_me (he : PE X o ta) (hc : ∀ x ∈ cs, MeOk X sp E m x.1 x.2) (ha : PA X (e :: es) t)
    (hst : starEach (e :: es) X.env = (false, eval e X.env) :: starEach es X.env := by rfl) (hpl : (backTo pos (starEach es X.env)).any (·.1) = false := by rfl)
    (ht : eval (.Call (.Attribute o m apos) (e :: es) [] pos) X.env = (do
      let ov ← eval o X.env
      standAt apos.atName
      let (f, first) ← holding [ov] (getMethod ov m pl)
      callWith pos f first (backTo pos (starEach (e :: es) X.env)) (backToKw pos (keywordEach [] X.env))) := by rfl) :
    PE X (.Call (.Attribute o m apos) (e :: es) [] pos) (tMe X.K sp E m cs ta t) := by
  refine ⟨fun pins s σ H Q I h => ?_⟩
  refine PySem.W.methodCall_KW (pl := pl) (thn (he.run pins s σ H _ I h) fun u s1 ⟨x, H1, I1, rx, a, dx, fs, cn, id, ex, ea, hm, l, q⟩ => ?_) ht
  subst ex
  obtain rfl : u = Value.ref a := rx
  obtain ⟨c, b, CX, k, f, hme, F, hr, hx⟩ := hc _ hm
  refine getmeth_ok I1 ea c hme l ?_
  refine PySem.W.callWith_K (first := [.ref a]) (h₀ := X.base) I.ok.mod.kin hme.kp (thn (ha.run pos pins s1 σ H1 _ I1 q) fun us s2 ⟨vs, H2, I2, r, q2⟩ => ⟨I2.kIn, ?_⟩) hst hpl
  exact F.callR hr hx pins s2 σ H2 (.ref a :: vs) (.ref a :: us) Q I2 (.cons rfl r) q2
theorem pe_me0 (he : PE X o ta) (hc : ∀ x ∈ cs, MeOk X sp E m x.1 x.2)
    (ht : eval (.Call (.Attribute o m apos) [] [] pos) X.env = (do
      let ov ← eval o X.env
      standAt apos.atName
      let (f, first) ← holding [ov] (getMethod ov m pl)
      callWith pos f first (backTo pos (starEach [] X.env)) (backToKw pos (keywordEach [] X.env))) := by rfl) :
    PE X (.Call (.Attribute o m apos) [] [] pos) (tMe X.K sp E m cs ta tNil) := by
  refine ⟨fun pins s σ H Q I h => ?_⟩
  refine PySem.W.methodCall_KW (pl := pl) (thn (he.run pins s σ H _ I h) fun u s1 ⟨x, H1, I1, rx, a, dx, fs, cn, id, ex, ea, hm, l, q⟩ => ?_) ht
  subst ex
  obtain rfl : u = Value.ref a := rx
  obtain ⟨c, b, CX, k, f, hme, F, hr, hx⟩ := hc _ hm
  refine getmeth_ok I1 ea c hme l ?_
  exact PySem.W.callWith_K0 (first := [.ref a]) I1.kIn hme.kp (F.callR hr hx pins s1 σ H1 [.ref a] [.ref a] Q I1 (.cons rfl .nil) q)
end
end
/-! #### 12 -/
section
open ClX
/-! ### super().m(..), by the object's class -/
def tSu (K : PySem.W.Frag) (sp : Nat → Sp) (E : XK) (i0 : Nat) (cs : List (Str × Nat)) (t : TA) : TE := fun σ H Q => ∃ x dx fs cn id, σ[i0]? = some (some (.ref x)) ∧ H x = some (.ins (He.ga K cn) dx fs) ∧ (cn, id) ∈ cs ∧ t σ H fun vs H2 => sp id (.ref x :: vs) H2 Q E
def SuOk (X : Cx) (sp : Nat → Sp) (E : XK) (D : Addr) (m : Str) (cn : Str) (id : Nat) : Prop := ∃ (b : Bool) (CX : CXT) (k : Nat) (g : Addr), SupM X.K (He.ga X.K cn) D m g ∧ FnQ b X.prog X.w X.K X.mg X.base CX k g (sp id) ∧ RoomG b k X.A ∧ Passes CX X E
section
variable {X : Cx} {sp : Nat → Sp} {E : XK} {m : Str} {cs : List (Str × Nat)} {t : TA} {D : Addr} {x0 : Str} {i0 : Nat}
theorem run_cmG {b : Bool} {CX : CXT} {k : Nat} {q g C : Addr} {s0 : Sp} {Q : VK} {us : List Value} {vs : List V} {pins : List (Addr × Obj)} {σ : L2.St} {H : Hp} {s : Shared} (F : FnQ b X.prog X.w X.K X.mg X.base CX k g s0) (hr : RoomG b k X.A) (hx : Passes CX X E) (I : Inv X ((q, PySem.W.methodObj (.ref g) (.ref C)) :: pins) σ H s)
    (r : Vals vs us) (h : s0 (.ref C :: vs) H Q E) : wpAny (model X.prog X.w) X.A (call (.ref q) us) (EP X pins σ Q) X.xe s := by
  have r2 : Vals (V.ref C :: vs) (Value.ref C :: us) := .cons rfl r
  have z : wpAny (model X.prog X.w) X.A (call (.ref q) us) (EP X ((q, PySem.W.methodObj (.ref g) (.ref C)) :: pins) σ Q) X.xe s := by
    refine wpAny_call (PySem.W.method_call (pin_at I) (codeAny_mono (F X.A X.stack s H (.ref C :: us) (.ref C :: vs) Q E hr I.env0 r2 h) fun r s' hq => ?_))
    cases r with
    | error e => exact hx _ σ H s e s' I hq
    | ok fl =>
      cases fl with
      | ret u => exact I.after hq
      | next => exact False.elim hq
      | brk => exact False.elim hq
      | cont => exact False.elim hq
  exact thn z fun _ _ y => unpinE y
theorem pea_su {e : Expr} {es : List Expr} {body : List Stmt} {p0 p1 apos pos : Pos} {pl : Sem Bool} (hE : EnvS X D x0 i0) (hc : ∀ x ∈ cs, SuOk X sp E D m x.1 x.2) (ha : PA X (e :: es) t)
    (hst : starEach (e :: es) X.env = (false, eval e X.env) :: starEach es X.env := by rfl) (hpl : (backTo pos (starEach es X.env)).any (·.1) = false := by rfl)
    (ht : eval (.Call (.Attribute (.Call (.Name "super" p0) [] [] p1) m apos) (e :: es) [] pos) X.env = (do
      let ov ← attributeBase (.Call (.Name "super" p0) [] [] p1) m X.env (eval (.Call (.Name "super" p0) [] [] p1) X.env)
      standAt apos.atName
      let (f, first) ← holding [ov] (getMethod ov m pl)
      callWith pos f first (backTo pos (starEach (e :: es) X.env)) []) := by rfl) :
    PEA X (.func body X.env) (.Call (.Attribute (.Call (.Name "super" p0) [] [] p1) m apos) (e :: es) [] pos) (tSu X.K sp E i0 cs t) := by
  refine ⟨fun pins s σ H Q I h => ?_⟩
  obtain ⟨x, dx, fs, cn, id, hσ, hH, hm, q⟩ := h
  obtain ⟨b, CX, k, g, M, F, hr, hx⟩ := hc _ hm
  obtain ⟨f, ofc, ofd, fd', osl, ar, hf1, hf2, hf3, hf4⟩ := hE.fn
  obtain ⟨cda, occ, ocd, vs, cosl, file, tf, hc1, hc2, hc3, hc4⟩ := hE.co
  obtain ⟨cc, o1, o2, o3, hcc1, hcc2⟩ := hE.cc
  refine ks_wpAt_MethodCall (pl := pl) ?_ ht
  refine ks_wpAt_super_base hE.ks hE.kc M.nm hf1 (I.kIn _ _ hf2) rfl hf3 hc1 (I.kIn _ _ hc2) rfl hc3 hc4 hE.top ?_
  refine sup_got hE I hσ hH M hf4 hcc1 hcc2 fun u s3 hb I3 => ?_
  refine callwith_cm I3 hb M.fi (thn (ha.run pos _ _ σ H _ I3 q) fun us s3 ⟨vs, H2, I4, rv, q2⟩ => ⟨⟨pin_at I4, I4.kIn⟩, ?_⟩) hst hpl
  exact run_cmG F hr hx I4 rv q2
theorem pea_su0 {body : List Stmt} {p0 p1 apos pos : Pos} {pl : Sem Bool} (hE : EnvS X D x0 i0) (hc : ∀ x ∈ cs, SuOk X sp E D m x.1 x.2)
    (ht : eval (.Call (.Attribute (.Call (.Name "super" p0) [] [] p1) m apos) [] [] pos) X.env = (do
      let ov ← attributeBase (.Call (.Name "super" p0) [] [] p1) m X.env (eval (.Call (.Name "super" p0) [] [] p1) X.env)
      standAt apos.atName
      let (f, first) ← holding [ov] (getMethod ov m pl)
      callWith pos f first (backTo pos (starEach [] X.env)) []) := by rfl) :
    PEA X (.func body X.env) (.Call (.Attribute (.Call (.Name "super" p0) [] [] p1) m apos) [] [] pos) (tSu X.K sp E i0 cs tNil) := by
  refine ⟨fun pins s σ H Q I h => ?_⟩
  obtain ⟨x, dx, fs, cn, id, hσ, hH, hm, q⟩ := h
  obtain ⟨b, CX, k, g, M, F, hr, hx⟩ := hc _ hm
  obtain ⟨f, ofc, ofd, fd', osl, ar, hf1, hf2, hf3, hf4⟩ := hE.fn
  obtain ⟨cda, occ, ocd, vs, cosl, file, tf, hc1, hc2, hc3, hc4⟩ := hE.co
  obtain ⟨cc, o1, o2, o3, hcc1, hcc2⟩ := hE.cc
  refine ks_wpAt_MethodCall (pl := pl) ?_ ht
  refine ks_wpAt_super_base hE.ks hE.kc M.nm hf1 (I.kIn _ _ hf2) rfl hf3 hc1 (I.kIn _ _ hc2) rfl hc3 hc4 hE.top ?_
  refine sup_got hE I hσ hH M hf4 hcc1 hcc2 fun u s3 hb I3 => ?_
  refine PySem.W.callWith_M0 ⟨pin_at I3, I3.kIn⟩ M.fi ?_
  exact run_cmG F hr hx I3 .nil q
end
/-! ### over data -/
section
end
end
/-! #### 13 -/
section
open ClX
/-! ### C(e, .., k = v, ..) -/
/-- a def keeps its promise, called by n values and the keywords ks, whose values stand behind in the order ix -/
def FnK (b : Bool) (P : Program) (w : World) (K : PySem.W.Frag) (mg : Str → Option Value) (base : Heap) (CX : CXT) (k : Nat) (f : Addr) (n : Nat) (ks : List Str) (ix : List Nat) (sp : Sp) : Prop :=
  ∀ (A : Around) (outer : List Env) (s : Shared) (H : Hp) (us ws : List Value) (vs zs : List V) (Q : VK) (E : XK), RoomG b k A → Env0 P w K mg base A outer s H → Vals vs us → Vals zs ws → vs.length = n → zs.length = ks.length → sp (gPm ix vs zs) H Q E → codeAny (model P w) A (.call (.ref f) ⟨us, ks.zip ws⟩) (CR CX outer P w H s Q E) s
section
variable {b : Bool} {P : Program} {w : World} {K : PySem.W.Frag} {mg : Str → Option Value} {base : Heap} {CX : CXT} {k n : Nat} {f : Addr} {fd : FuncData} {ps ks : List Str} {ix : List Nat} {sp : Sp}
theorem FnQ.toK (F : FnQ b P w K mg base CX k f sp) : FnK b P w K mg base CX k f n [] [] sp := by
  intro A outer s H us ws vs zs Q E hr e0 r rz l1 l2 h
  have e : gPm [] vs zs = vs := List.append_nil vs
  rw [e] at h
  exact F A outer s H us vs Q E hr e0 r h
theorem FnG.toK (F : FnG b P w K mg base CX k f fd ps sp) (hb : KBn K fd ps n ks (gPm ix) (gPm ix)) : FnK b P w K mg base CX k f n ks ix sp := by
  intro A outer s H us ws vs zs Q E hr e0 r rz l1 l2 h
  have hin : K.In s.heap := e0.mod.kin.keeps fun b o e => (e0.bs b o e).1
  exact F.run A outer s H ⟨us, ks.zip ws⟩ (gPm ix us ws) (gPm ix vs zs) Q E hr e0 (hb.to s us ws hin (r.length.symm.trans l1) (rz.length.symm.trans l2)) (hb.rel r rz) h
end
def tMk (K : PySem.W.Frag) (sp : Nat → Sp) (E : XK) (cn : Str) (id n m : Nat) (ix : List Nat) (t tk : TA) : TE := fun σ H Q => t σ H fun vs H1 => tk σ H1 fun zs H2 => (vs.length = n ∧ zs.length = m) ∧ ∀ x dx, H2 x = none → H2 dx = none → dx ≠ x →
  sp id (.ref x :: gPm ix vs zs) (upd (upd H2 dx (.own x)) x (.ins (He.ga K cn) dx [])) (fun v H3 => v = .non ∧ Q (.ref x) H3) E
def MkOk (X : Cx) (sp : Nat → Sp) (E : XK) (n : Nat) (ks : List Str) (ix : List Nat) (cn : Str) (id : Nat) : Prop := X.mg cn = some (.ref (He.ga X.K cn)) ∧ ∃ (b : Bool) (CX : CXT) (k : Nat) (f : Addr), Mk X.K (He.ga X.K cn) f ∧ FnK b X.prog X.w X.K X.mg X.base CX k f (n + 1) ks ix (sp id) ∧ RoomG b (k + 1) X.A ∧ Passes CX X E
section
variable {X : Cx} {sp : Nat → Sp} {E : XK} {cn : Str} {id n : Nat} {ks : List Str} {ix : List Nat} {t tk : TA} {e : Expr} {es : List Expr} {kws : List Keyword} {p pos : Pos}
theorem run_mk {b : Bool} {CX : CXT} {k : Nat} {C f : Addr} {s0 : Sp} {pins : List (Addr × Obj)} {σ : L2.St} {H : Hp} {s : Shared} {Q : VK} {us ws : List Value} {vs zs : List V} (M : Mk X.K C f) (F : FnK b X.prog X.w X.K X.mg X.base CX k f (n + 1) ks ix s0) (hr : RoomG b (k + 1) X.A) (hx : Passes CX X E)
    (I : Inv X pins σ H s) (r : Vals vs us) (rz : Vals zs ws) (l1 : vs.length = n) (l2 : zs.length = ks.length)
    (h : ∀ x dx, H x = none → H dx = none → dx ≠ x → s0 (.ref x :: gPm ix vs zs) (upd (upd H dx (.own x)) x (.ins C dx [])) (fun v H2 => v = .non ∧ Q (.ref x) H2) E) :
    wpAny (model X.prog X.w) X.A (call (.ref C) us (ks.zip ws)) (EP X pins σ Q) X.xe s := by
  have hq := h (s.heap.objs.size + 1) s.heap.objs.size (I.hok.fresh (Nat.le_succ _)) (I.hok.fresh (Nat.le_refl _)) (Nat.ne_of_lt (Nat.lt_succ_self _))
  have I2 := Inv.made (C := C) I
  have r1 : Vals (V.ref (s.heap.objs.size + 1) :: vs) (Value.ref (s.heap.objs.size + 1) :: us) := .cons rfl r
  refine wpAny_call (make_map (f := f) I.kIn M.makes M.init (beq_iff_eq.mp M.fn) (codeAny_mono (F _ X.stack _ _ (Value.ref (s.heap.objs.size + 1) :: us) ws (V.ref (s.heap.objs.size + 1) :: vs) zs _ E (hr.make C us (ks.zip ws))
    (I2.env0.make C us (ks.zip ws)) r1 rz (congrArg Nat.succ l1) l2 hq) fun r s' hq' => ?_))
  cases r with
  | error e => exact hx pins σ _ _ e s' I2 hq'
  | ok fl =>
    cases fl with
    | ret u =>
      obtain ⟨v, H', I3, rv, ev, q3⟩ := I2.after hq'
      subst ev
      exact ⟨rv, ⟨V.ref (s.heap.objs.size + 1), H', I3, rfl, q3⟩⟩
    | next => exact False.elim hq'
    | brk => exact False.elim hq'
    | cont => exact False.elim hq'
/-- C(e, ..) -/
theorem pe_mk (hc : MkOk X sp E n [] ix cn id) (ha : PA X (e :: es) t) (hg : Gl X cn := by rfl) (hdb : (cn == ("__debug__" : Str)) = false := by decide)
    (he : starEach (e :: es) X.env = (false, eval e X.env) :: starEach es X.env := by rfl) (hpl : (backTo pos (starEach es X.env)).any (·.1) = false := by rfl) : PE X (.Call (.Name cn p) (e :: es) [] pos) (tMk X.K sp E cn id n 0 ix t tNil) := by
  refine ⟨fun pins s σ H Q I h => ?_⟩
  obtain ⟨hm, b, CX, k, f, M, F, hr, hx⟩ := hc
  refine wpAny_Call_Name_kw (ld_glob I hg hm ?_ hdb)
  refine PySem.W.callWith_K (h₀ := X.base) I.ok.mod.kin M.kp (thn (ha.run pos pins s σ H _ I h) fun us s1 ⟨vs, H1, I1, r, q⟩ => ⟨I1.kIn, ?_⟩) he hpl
  exact run_mk (ws := []) (zs := []) M F hr hx I1 r .nil q.1.1 rfl q.2
/-- C(k = v, ..) -/
theorem pe_mkK0 (hc : MkOk X sp E 0 ks ix cn id) (hkw : PK X kws tk) (hg : Gl X cn := by rfl)
    (hall : (backToKw pos (keywordEach kws X.env)).all (·.1.isSome) = true := by rfl) (hks : (backToKw pos (keywordEach kws X.env)).filterMap (·.1) = ks := by rfl) (hdb : (cn == ("__debug__" : Str)) = false := by decide)
    (hpl : ((backTo pos (starEach [] X.env)).any (·.1) || (backToKw pos (keywordEach kws X.env)).any (·.1.isNone)) = false := by rfl) : PE X (.Call (.Name cn p) [] kws pos) (tMk X.K sp E cn id 0 ks.length ix tNil tk) := by
  refine ⟨fun pins s σ H Q I h => ?_⟩
  obtain ⟨hm, b, CX, k, f, M, F, hr, hx⟩ := hc
  refine wpAny_Call_Name_kw (ld_glob I hg hm ?_ hdb)
  refine PySem.W.callWith_KW0 (h₀ := X.base) I.ok.mod.kin M.kp hall ?_ hpl
  refine thn (hkw.run pos pins s σ H _ I h) fun ws s2 ⟨zs, H2, I2, rz, ⟨l1, l2⟩, q2⟩ => ⟨I2.kIn, ?_⟩
  rw [hks]
  exact run_mk (us := []) (vs := []) M F hr hx I2 .nil rz rfl l2 q2
/-- C(e, .., k = v, ..) -/
theorem pe_mkK (hc : MkOk X sp E n ks ix cn id) (ha : PA X (e :: es) t) (hkw : PK X kws tk) (hg : Gl X cn := by rfl)
    (hall : (backToKw pos (keywordEach kws X.env)).all (·.1.isSome) = true := by rfl) (hks : (backToKw pos (keywordEach kws X.env)).filterMap (·.1) = ks := by rfl) (hdb : (cn == ("__debug__" : Str)) = false := by decide)
    (he : starEach (e :: es) X.env = (false, eval e X.env) :: starEach es X.env := by rfl) (hpl : ((backTo pos (starEach (e :: es) X.env)).any (·.1) || (backToKw pos (keywordEach kws X.env)).any (·.1.isNone)) = false := by rfl) :
    PE X (.Call (.Name cn p) (e :: es) kws pos) (tMk X.K sp E cn id n ks.length ix t tk) := by
  refine ⟨fun pins s σ H Q I h => ?_⟩
  obtain ⟨hm, b, CX, k, f, M, F, hr, hx⟩ := hc
  refine wpAny_Call_Name_kw (ld_glob I hg hm ?_ hdb)
  refine PySem.W.callWith_KW (h₀ := X.base) I.ok.mod.kin M.kp hall (thn (ha.run pos pins s σ H _ I h) fun us s1 ⟨vs, H1, I1, r, q⟩ => ?_) hpl he
  refine thn (hkw.run pos pins s1 σ H1 _ I1 q) fun ws s2 ⟨zs, H2, I2, rz, ⟨l1, l2⟩, q2⟩ => ⟨I2.kIn, ?_⟩
  rw [hks]
  exact run_mk M F hr hx I2 r rz l1 l2 q2
end
section
end
end
/-! #### 14 -/
section
/-! ### isinstance of own classes -/
structure TyC (K : PySem.W.Frag) (C : Addr) : Prop where
  cl : Cls K C
  ha : PySem.W.findIn K (.ref C) "__class__" = some (some (.builtin "object.__class__"))
  hn : PySem.W.specialIn K (.builtin "object.__class__") "__get__" = some (some (.builtin "getset_descriptor.__get__"))
  htk : PySem.W.takesIn K (.builtin "object.__class__") = some true
  hm : PySem.W.mroIn K C (.type "object") = some true
/-- a class: built in, or of the program -/
inductive Cq where
  | ty (T : Tn)
  | own (C : Str)
def Cq.beq : Cq → Cq → Bool
  | .ty a, .ty b => a.s == b.s
  | .own a, .own b => decide (a = b)
  | _, _ => false
theorem Cq.beq_eq : ∀ {a b : Cq}, a.beq b = true → a = b
  | .ty a, .ty b, h => by cases a <;> cases b <;> first | rfl | (exact absurd h (by decide))
  | .own a, .own b, h => by rw [of_decide_eq_true h]
  | .ty _, .own _, h => by cases h
  | .own _, .ty _, h => by cases h
def Cq.u (K : PySem.W.Frag) : Cq → Value
  | .ty T => .type T.s
  | .own C => .ref (He.ga K C)
def Cq.v (K : PySem.W.Frag) : Cq → V
  | .ty T => .ty T.s
  | .own C => .ref (He.ga K C)
theorem Cq.cv {K : PySem.W.Frag} : ∀ a : Cq, ClsV (a.v K) (a.u K)
  | .ty T => .ty _
  | .own C => .own _
def Dt.cq : Dt → Option Cq
  | .obj cn _ _ => some (.own cn)
  | d => d.tn.map .ty
def CqOk (K : PySem.W.Frag) (mg : Str → Option Value) : Cq → Prop
  | .ty _ => True
  | .own cn => mg cn = some (.ref (He.ga K cn)) ∧ TyC K (He.ga K cn)
theorem Da.tyq {c : Wc} {av : Addr → Prop} {H : Hp} {x : V} {d : Dt} {a : Cq} (h : Da c av H x d) (e : d.cq = some a) (hC : CqOk c.K c.mg a) : TyX c.K H x (a.u c.K) := by
  have old : ∀ {d : Dt}, Da c av H x d → d.tn.map Cq.ty = some a → TyX c.K H x (a.u c.K) := fun {d} h e => by
    obtain ⟨t, ht, rfl⟩ := Option.map_eq_some_iff.mp e
    exact h.ty ht
  cases d with
  | obj cn ns ds =>
    cases e
    obtain ⟨hC, T⟩ := hC
    cases h with
    | obj e1 e2 e3 e4 e5 =>
      rw [hC] at e2
      cases e2
      exact .base (.ins e3 T.cl T.ha T.hn T.htk T.hm)
  | non => exact old h e
  | bl => exact old h e
  | int => exact old h e
  | str => exact old h e
  | lst => exact old h e
  | tup => exact old h e
  | dic => exact old h e
  | err => exact old h e
  | rf => exact old h e
  | pen => exact old h e
  | cls => exact old h e
def kitL (f : Cq → Option Bool) : List Cq → Option Bool
  | [] => some false
  | b :: bs => match f b with
    | some true => some true
    | some false => kitL f bs
    | none => none
theorem kitL_ok {K : PySem.W.Frag} {t : Value} {f : Cq → Option Bool} (h : ∀ b r, f b = some r → PySem.W.kitOne K t (b.u K) = some r) : ∀ {bs : List Cq} {r : Bool}, kitL f bs = some r → PySem.W.kitAny K t (bs.map (Cq.u K)) = some r
  | [], r, e => by cases e; exact kitAny_nil
  | b :: bs, r, e => by
    unfold kitL at e
    split at e
    · rename_i e1
      cases e
      exact kitAny_cons (h b _ e1) (fun z => by cases z) (fun _ => rfl)
    · rename_i e1
      exact kitAny_cons (h b _ e1) (fun _ => kitL_ok h e) (fun z => by cases z)
    · cases e
/-- the classes, laid as values -/
def tQs (K : PySem.W.Frag) : List Cq → TA
  | [] => tNil
  | b :: bs => tCons (tC (b.v K)) (tQs K bs)
theorem tQs_run {K : PySem.W.Frag} {σ : L2.St} {H : Hp} : ∀ {bs : List Cq} {Q : List V → Hp → Prop}, Q (bs.map (Cq.v K)) H → tQs K bs σ H Q
  | [], Q, h => h
  | b :: bs, Q, h => tQs_run (bs := bs) (Q := fun xs H2 => Q (b.v K :: xs) H2) h
theorem paired_q {K : PySem.W.Frag} : ∀ bs : List Cq, Paired ClsV (bs.map (Cq.v K)) (bs.map (Cq.u K))
  | [] => .nil
  | b :: bs => .cons b.cv (paired_q bs)
section
variable {c : Fc} {Γ : List Sl} {n : Nat} {k : Kd} {te : TE}
end
end
/-! #### 15 -/
section
open PySem.W
/-! ### == and != by an own __eq__ -/
section
variable {prog : Program} {w : World} {A : Around} {E : Value → Shared → Prop} {s : Shared} {K : Frag} {x C f : Addr} {ox : Obj} {od : Option Obj} {name : Str}
theorem ifBound_B {M : Model} {id : String} {args : List Value} {Q : Option Value → Shared → Prop} (X : K.In s.heap) (I : InstAt s.heap x ox C od) (hs : findIn K (.ref C) name = some (some (.builtin id))) (hb : ∀ self, bindSpecial (.builtin id) self = pure (.builtin id, [self]))
    (h : wpAny M A (call (.builtin id) (.ref x :: args)) (fun v => Q (some v)) E s) : wpAny M A (callSpecialIfBound? (.ref x) name args) Q E s := by
  simp only [callSpecialIfBound?, bindSpecialIfBound?]
  refine wpAny_holding (wpAny_bind (wpAny_bind (wpAny_bind (I.type.here ((looks_findIn X hs).here ?_)))))
  simp only [hb]
  refine wpAny_bind (wpAny_askSetting (wpAny_ite ?_))
  have fin : wpAny M A (call (.builtin id) ([.ref x] ++ args) >>= fun v => pure (some v)) Q E s := wpAny_bind (wpAny_mono h (fun v s' h' => wpAny_pure h') fun _ _ h' => h')
  split
  · exact wpAny_bind (wpAny_pure (wpAny_pure fin))
  · exact wpAny_tryCatch (wpAny_bind (wpAny_pure (wpAny_pure fin)))
theorem objNe_K {b : Value} (X : K.In s.heap) (I : InstAt s.heap x ox C od) (hs : findIn K (.ref C) "__eq__" = some (some (.ref f))) (hf : isFn K (.ref f) = true) (hu : A.units < cLine) {Q : Fin → Shared → Prop}
    (h : wpAny (model prog w) A (call (.ref f) [.ref x, b]) (fun v s' => ∃ r, v = .bool r ∧ Q (.done (.ret (.bool (!r)))) s') E s) :
    wpAny (model prog w) A (Builtin.«object.__ne__» ⟨[.ref x, b], []⟩) Q E s := by
  unfold Builtin.«object.__ne__»
  repeat (first
    | with_reducible refine wpAny_cRoomFor hu ?_
    | (refine wpAny_bind (m := callSpecialIfBound? (.ref x) (Str.ofString "__eq__") [b])
        (ifBound_K X I hs hf (wpAny_mono h (fun r s' hr => by
          obtain ⟨b, rfl, hq⟩ := hr
          repeat (first | exact hq | exact wpAny_pure hq | exact wpAny_truthy_bool hq | (refine wpAny_bind (m := truthy (.bool _)) (wpAny_truthy_bool ?_)) | wp_step)) fun _ _ e => e)))
    | wp_step)
theorem tryEq_K {b : Value} (X : K.In s.heap) (I : InstAt s.heap x ox C od) (hs : findIn K (.ref C) "__eq__" = some (some (.ref f))) (hf : isFn K (.ref f) = true) {Q : Value → Shared → Prop}
    (h : wpAny (model prog w) A (call (.ref f) [.ref x, b]) (fun v s' => ∃ r, v = .bool r ∧ Q (.bool r) s') E s) : wpAny (model prog w) A (tryCompare (.ref x) "__eq__" b) (fun r s' => ∃ v, r = some v ∧ Q v s') E s := by
  unfold tryCompare
  refine wpAny_bind (ifBound_K X I hs hf (wpAny_mono h (fun v s' hv => ?_) fun _ _ e => e))
  obtain ⟨r, rfl, q⟩ := hv
  exact wpAny_pure ⟨_, rfl, q⟩
theorem tryNe_K {b : Value} (X : K.In s.heap) (I : InstAt s.heap x ox C od) (hn : findIn K (.ref C) "__ne__" = some (some (.builtin "object.__ne__"))) (hm : mroIn K C (.type "object") = some true) (hs : findIn K (.ref C) "__eq__" = some (some (.ref f))) (hf : isFn K (.ref f) = true) (hu : A.units + 1 < cLine) {Q : Value → Shared → Prop}
    (h : wpAny (model prog w) A.in1 (call (.ref f) [.ref x, b]) (fun v s' => ∃ r, v = .bool r ∧ Q (.bool (!r)) s') E s) : wpAny (model prog w) A (tryCompare (.ref x) "__ne__" b) (fun r s' => ∃ v, r = some v ∧ Q v s') E s := by
  unfold tryCompare
  refine wpAny_bind (ifBound_B X I hn F.cmp_object.ne.bind (wpAny_call (codeAny_call_builtin F.cmp_object.ne.plain F.cmpEntry_ne (PySem.W.check_slot F.cmpKind_ne F.cmpSplit_ne (I.type.andThen (looks_mroIn X hm)) (F.cmpArgs_ne _ _) (objNe_K X I hs hf hu (wpAny_mono h (fun v s' hv => ?_) fun _ _ e => e))))))
  obtain ⟨r, rfl, q⟩ := hv
  exact ⟨r, rfl, wpAny_pure ⟨_, rfl, q⟩⟩
theorem rich_l {op : CmpOp} {b tb : Value} {Q : Value → Shared → Prop} (X : K.In s.heap) (hu : A.units < cLine) (I : InstAt s.heap x ox C od) (hb : Looks (model prog w) s.heap (typeOf b) tb) (hn : notFirst K C tb = true)
    (one : wpAny (model prog w) A (tryCompare (.ref x) (cmpInfo op).2.1 b) (fun r s' => ∃ v, r = some v ∧ Q v s') E s) : wpAny (model prog w) A (richCompare op (.ref x) b) Q E s := by
  unfold richCompare
  simp only [oneThing_ref]
  refine wpAny_holding (wpAny_bind (wpAny_cRoomFor hu ?_))
  refine wpAny_bind (I.type.here (wpAny_bind (hb.here ?_)))
  split
  · rename_i q
    have e : subIn K tb (.ref C) = some false := by
      rcases Bool.or_eq_true_iff.mp hn with e | e
      · rw [beq_iff_eq.mp e] at q; simp at q
      · exact beq_iff_eq.mp e
    refine wpAny_bind ((looks_subIn X e).here ?_)
    simp only [Bool.false_eq_true, if_false]
    refine wpAny_bind (wpAny_mono one (fun r s' z => ?_) fun _ _ e => e)
    obtain ⟨v, rfl, hq⟩ := z
    exact wpAny_pure hq
  · refine wpAny_bind (wpAny_pure ?_)
    simp only [Bool.false_eq_true, if_false]
    refine wpAny_bind (wpAny_mono one (fun r s' z => ?_) fun _ _ e => e)
    obtain ⟨v, rfl, hq⟩ := z
    exact wpAny_pure hq
/-- the right one's class is below the left one's: it is asked first -/
theorem rich_r {op : CmpOp} {y D : Addr} {oy : Obj} {ody : Option Obj} {Q : Value → Shared → Prop} (X : K.In s.heap) (hu : A.units < cLine) (I : InstAt s.heap x ox C od) (J : InstAt s.heap y oy D ody) (hne : ((Value.ref C) != .ref D) = true) (hn : subIn K (.ref D) (.ref C) = some true)
    (one : wpAny (model prog w) A (tryCompare (.ref y) (cmpInfo op).2.2 (.ref x)) (fun r s' => ∃ v, r = some v ∧ Q v s') E s) : wpAny (model prog w) A (richCompare op (.ref x) (.ref y)) Q E s := by
  unfold richCompare
  simp only [oneThing_ref]
  refine wpAny_holding (wpAny_bind (wpAny_cRoomFor hu ?_))
  refine wpAny_bind (I.type.here (wpAny_bind (J.type.here ?_)))
  rw [if_pos hne]
  refine wpAny_bind ((looks_subIn X hn).here ?_)
  simp only [if_true]
  refine wpAny_bind (wpAny_mono one (fun r s' z => ?_) fun _ _ e => e)
  obtain ⟨v, rfl, hq⟩ := z
  repeat (first | exact hq | exact wpAny_pure hq | wp_step)
end
end
/-! #### 16 -/
section
open PySem.W
/-! ### x == y and x != y, x an object whose class has an own __eq__ -/
def rEqO (K : Frag) (sp : Nat → Sp) (ne : Bool) (cs : List (Str × Nat)) : R2 := fun x y H Q => ∃ a dx fs cn, x = .ref a ∧ H a = some (.ins (He.ga K cn) dx fs) ∧
  ((∃ id t, (cn, id) ∈ cs ∧ TyX K H y t ∧ notFirst K (He.ga K cn) t = true ∧ sp id [.ref a, y] H (fun v H' => ∃ r, v = .bl r ∧ Q (.bl (Bool.xor ne r)) H') E0) ∨
   (∃ b dy gs cn' id, y = .ref b ∧ H b = some (.ins (He.ga K cn') dy gs) ∧ (cn', id) ∈ cs ∧ ((Value.ref (He.ga K cn)) != .ref (He.ga K cn')) = true ∧ subIn K (.ref (He.ga K cn')) (.ref (He.ga K cn)) = some true ∧ sp id [.ref b, .ref a] H (fun v H' => ∃ r, v = .bl r ∧ Q (.bl (Bool.xor ne r)) H') E0))
def EqOk (X : Cx) (sp : Nat → Sp) (cn : Str) (id : Nat) : Prop := ∃ (b : Bool) (k : Nat) (f : Addr), findIn X.K (.ref (He.ga X.K cn)) "__eq__" = some (some (.ref f)) ∧ isFn X.K (.ref f) = true ∧ findIn X.K (.ref (He.ga X.K cn)) "__ne__" = some (some (.builtin "object.__ne__")) ∧ mroIn X.K (He.ga X.K cn) (.type "object") = some true ∧
  FnQ b X.prog X.w X.K X.mg X.base CX0 k f (sp id) ∧ RoomG b (k + 1) X.A
section
variable {X : Cx} {sp : Nat → Sp} {cs : List (Str × Nat)}
theorem FnQ.at0 {b : Bool} {k : Nat} {f : Addr} {s0 : Sp} {A : Around} {pins : List (Addr × Obj)} {σ : L2.St} {H : Hp} {s : Shared} {us : List Value} {vs : List V} {Q : VK} {E' : Value → Shared → Prop} (F : FnQ b X.prog X.w X.K X.mg X.base CX0 k f s0) (hr : RoomG b k A) (e0 : Env0 X.prog X.w X.K X.mg X.base A X.stack s H) (I : Inv X pins σ H s) (r : Vals vs us) (h : s0 vs H Q E0) :
    wpAny (model X.prog X.w) A (call (.ref f) us) (EP X pins σ Q) E' s := by
  refine wpAny_call (codeAny_mono (F A X.stack s H us vs Q E0 hr e0 r h) ?_)
  intro r s' hq
  cases r with
  | error e => exact False.elim hq
  | ok fl =>
    cases fl with
    | ret u => exact I.after hq
    | next => exact hq.elim
    | brk => exact hq.elim
    | cont => exact hq.elim
theorem eqO_any {op : CmpOp} {ne : Bool} (hop : (op = .Eq ∧ ne = false) ∨ (op = .NotEq ∧ ne = true)) (hc : ∀ x ∈ cs, EqOk X sp x.1 x.2) : OpR X (compareOp op) (rEqO X.K sp ne cs) := by
  intro pins s σ H x y v u Q I rx ry h
  obtain ⟨a, dx, fs, cn, rfl, ea, h⟩ := h
  obtain rfl : v = Value.ref a := rx
  obtain ⟨mA, J, _⟩ := ins_get I.hok ea
  obtain ⟨od, J, _⟩ := J.look
  -- what the call gives
  have one : ∀ {b0 : Addr} {w0 : Value} {x0 y0 : V} {C0 : Addr} {o0 : Obj} {d0 : Option Obj} {bb : Bool} {k : Nat} {f : Addr} {s0 : Sp}, InstAt s.heap b0 o0 C0 d0 → findIn X.K (.ref C0) "__eq__" = some (some (.ref f)) → isFn X.K (.ref f) = true → findIn X.K (.ref C0) "__ne__" = some (some (.builtin "object.__ne__")) → mroIn X.K C0 (.type "object") = some true →
      FnQ bb X.prog X.w X.K X.mg X.base CX0 k f s0 → RoomG bb (k + 1) X.A → RelV y0 w0 → s0 [.ref b0, y0] H (fun v H' => ∃ r, v = .bl r ∧ Q (.bl (Bool.xor ne r)) H') E0 →
      ∀ nm : Str, nm = (if ne then ("__ne__" : Str) else ("__eq__" : Str)) → wpAny (model X.prog X.w) X.A (tryCompare (.ref b0) nm w0) (fun r s' => ∃ v, r = some v ∧ EP X pins σ Q v s') X.xe s := by
    intro b0 w0 x0 y0 C0 o0 d0 bb k f s0 J he hf hn hm F hr r0 h nm enm
    rcases hop with ⟨_, rfl⟩ | ⟨_, rfl⟩
    · subst enm
      refine tryEq_K I.kIn J he hf (thn (F.at0 (hr.mono (Nat.le_succ k)) I.env0 I (vs := [.ref b0, y0]) (.cons (show RelV (.ref b0) (.ref b0) from rfl) (.cons r0 .nil)) h) fun v s' q => ?_)
      obtain ⟨z, H', I', rz, r, rfl, q⟩ := q
      cases rz
      exact ⟨r, rfl, .bl r, H', I', rfl, by simpa using q⟩
    · subst enm
      refine tryNe_K I.kIn J hn hm he hf hr.in1.rm.units0 (thn (F.at0 hr.in1 I.env0.in1 I (vs := [.ref b0, y0]) (.cons (show RelV (.ref b0) (.ref b0) from rfl) (.cons r0 .nil)) h) fun v s' q => ?_)
      obtain ⟨z, H', I', rz, r, rfl, q⟩ := q
      cases rz
      exact ⟨r, rfl, .bl (!r), H', I', rfl, by simpa using q⟩
  have room : ∃ (bb : Bool) (k : Nat), RoomG bb (k + 1) X.A := by
    rcases h with ⟨id, _, hm, _⟩ | ⟨_, _, _, _, id, _, _, hm, _⟩
    · obtain ⟨bb, k, _, _, _, _, _, _, hr⟩ := hc _ hm
      exact ⟨bb, k, hr⟩
    · obtain ⟨bb, k, _, _, _, _, _, _, hr⟩ := hc _ hm
      exact ⟨bb, k, hr⟩
  obtain ⟨_, _, hroom⟩ := room
  have hu := hroom.rm.units0
  have e1 : (cmpInfo op).2.1 = (if ne then ("__ne__" : Str) else ("__eq__" : Str)) := by rcases hop with ⟨rfl, rfl⟩ | ⟨rfl, rfl⟩ <;> rfl
  have e2 : (cmpInfo op).2.2 = (if ne then ("__ne__" : Str) else ("__eq__" : Str)) := by rcases hop with ⟨rfl, rfl⟩ | ⟨rfl, rfl⟩ <;> rfl
  have e3 : compareOp op = richCompare op := by rcases hop with ⟨rfl, rfl⟩ | ⟨rfl, rfl⟩ <;> rfl
  rw [e3]
  rcases h with ⟨id, t, hm, ty, hn, h⟩ | ⟨b, dy, gs, cn', id, rfl, eb, hm, hne, hsub, h⟩
  · obtain ⟨bb, k, f, he, hf, hne, hmr, F, hr⟩ := hc _ hm
    obtain ⟨P, Z, hP, _⟩ := kit_of I ry ty
    exact rich_l I.kIn hu J (Z.ty _ _ I.kIn hP) hn (one (x0 := y) J he hf hne hmr F hr ry h _ e1)
  · obtain rfl : u = Value.ref b := ry
    obtain ⟨mB, J', _⟩ := ins_get I.hok eb
    obtain ⟨od', J', _⟩ := J'.look
    obtain ⟨bb, k, f, he, hf, hne', hmr, F, hr⟩ := hc _ hm
    exact rich_r I.kIn hu J J' hne hsub (one (x0 := .ref a) J' he hf hne' hmr F hr (show RelV (.ref a) (.ref a) from rfl) h _ e2)
theorem op_eqO (hc : ∀ x ∈ cs, EqOk X sp x.1 x.2) : OpR X (compareOp .Eq) (rEqO X.K sp false cs) := eqO_any (.inl ⟨rfl, rfl⟩) hc
theorem op_neO (hc : ∀ x ∈ cs, EqOk X sp x.1 x.2) : OpR X (compareOp .NotEq) (rEqO X.K sp true cs) := eqO_any (.inr ⟨rfl, rfl⟩) hc
end
/-! ### over data -/
section
end
end
/-! #### 19 -/
section
open PySem.W (ksFn)
/-! ### defs with a star parameter -/
/-- n values, then the tuple of all others -/
def spV (n : Nat) (sp : Sp) : Sp := fun vs H Q E => ∃ us rest, vs = us ++ rest ∧ us.length = n ∧ rest.length ≤ sizeLine ∧ ∀ p, H p = none → sp (us ++ [.ref p]) (upd H p (.tup rest)) Q E
/-- how such a def binds -/
def BndV (fd : FuncData) (ps : List Str) (pv : Str) : Prop := ∀ us rest : List Value, us.length = ps.length → bindArgs fd ⟨us ++ rest, []⟩ = (newTuple rest >>= fun t => pure (ps.zip us ++ [(pv, t)]))
theorem cxnew_0 : CXNew CX0 := fun _ _ _ _ _ _ _ _ _ _ _ _ z => z
theorem cxnew_x (P : Program) (w : World) : CXNew (L2.CX P w) := by
  intro outer s H h2 p rest E e s' kp hp hn z
  obtain ⟨a, B, H', cls, d, h1, h3, h4, ub, h5, h6, h7, h8⟩ := z
  refine ⟨a, B, H', cls, d, h1, h3, h4, ⟨fun b o e hb hf => ?_, fun b o e hf => ub.slot b o (kp b o e) hf, fun b o e hb => ?_, fun b o e hf => ub.there b o (kp b o e) hf, fun b xs e => ?_, fun b o xs e => ?_, fun b ps e => ?_⟩, h5, h6, h7, h8⟩
  · have hne : b ≠ p := Nat.ne_of_lt (Nat.lt_of_lt_of_le (Heap.lt_size e) hp)
    exact ub.keep b o (kp b o e) (by rw [upd_ne hne]; exact hb) hf
  · have hne : b ≠ p := Nat.ne_of_lt (Nat.lt_of_lt_of_le (Heap.lt_size e) hp)
    exact ub.free b o (kp b o e) (by rw [upd_ne hne]; exact hb)
  · exact ub.tups b xs (by rw [upd_ne (ne_of_none e hn)]; exact e)
  · exact ub.frzs b o xs (by rw [upd_ne (ne_of_none e hn)]; exact e)
  · exact ub.tbls b ps (by rw [upd_ne (ne_of_none e hn)]; exact e)
theorem env0_tup {P : Program} {w : World} {K : PySem.W.Frag} {mg : Str → Option Value} {base : Heap} {A : Around} {outer : List Env} {s : Shared} {H : Hp} {rest : List V} {ur : List Value} (e0 : Env0 P w K mg base A outer s H) (rr : Vals rest ur) (hl : rest.length ≤ sizeLine) :
    Env0 P w K mg base A outer { s with heap := s.heap.push ({ cls := .type "tuple", data := .seq ur.toArray } : Obj) } (upd H s.heap.objs.size (.tup rest)) ∧ Un (frs outer) [] H (upd H s.heap.objs.size (.tup rest)) s.heap (s.heap.push ({ cls := .type "tuple", data := .seq ur.toArray } : Obj)) := by
  have hn : H s.heap.objs.size = none := e0.hok.fresh (Nat.le_refl _)
  have kp : ∀ b o, s.heap.get? b = some o → (s.heap.push ({ cls := .type "tuple", data := .seq ur.toArray } : Obj)).get? b = some o := fun b o e => Heap.get?_push_of_some _ e
  have new : ObjOk P w (upd H s.heap.objs.size (.tup rest)) (s.heap.push ({ cls := .type "tuple", data := .seq ur.toArray } : Obj)) s.heap.objs.size (.tup rest) :=
    ⟨hl, ur, rr, ⟨_, Heap.get?_push_size _ rfl, rfl, _, rfl⟩⟩
  have hok2 := e0.hok.laid kp (Nat.le_refl _) new
  refine ⟨⟨e0.frames, e0.mod, fun b o e => ⟨kp b o (e0.bs b o e).1, ?_⟩, ?_, Heap.FunFrames.of_keeps (fun b o e _ => ⟨o, kp b o e, rfl⟩) e0.funs, fun b hb' => ?_, hok2, e0.bare⟩, Un.laid kp (Nat.le_refl _) hn⟩
  · rw [upd_ne (Nat.ne_of_lt (Heap.lt_size (e0.bs b o e).1))]
    exact (e0.bs b o e).2
  · show base.objs.size ≤ (s.heap.push _).objs.size
    rw [Heap.size_push]
    exact Nat.le_succ_of_le e0.bsz
  · obtain ⟨_, o, ho, _⟩ := e0.funs.mem hb'
    rw [upd_ne (Nat.ne_of_lt (Heap.lt_size ho))]
    exact e0.frf b hb'
theorem vals_split : ∀ {us rest : List V} {ws : List Value}, Vals (us ++ rest) ws → ∃ w1 w2, ws = w1 ++ w2 ∧ Vals us w1 ∧ Vals rest w2
  | [], rest, ws, h => ⟨[], ws, rfl, .nil, h⟩
  | u :: us, rest, _, h => by
    cases h with
    | cons h1 h2 =>
      obtain ⟨w1, w2, rfl, a, b⟩ := vals_split h2
      exact ⟨_ :: w1, w2, rfl, .cons h1 a, b⟩
section
variable {P : Program} {w : World} {K : PySem.W.Frag} {mg : Str → Option Value} {base : Heap} {b : Bool} {k : Nat} {f : Addr} {name qual : Str} {params : Arguments} {body : List Stmt} {scope : Scope} {dV kV doc pm cdv ct oc : Value} {an od : Option Addr} {osl : Array (Option Value)} {N ps : List Str} {pv : Str} {sp : Sp} {CX : CXT}
theorem zip_end {α β : Type} : ∀ {ps : List α} {us : List β} {p : α} {u : β}, us.length = ps.length → (ps ++ [p]).zip (us ++ [u]) = ps.zip us ++ [(p, u)]
  | [], [], _, _, _ => rfl
  | a :: ps, c :: us, p, u, h => by
    show (a, c) :: (ps ++ [p]).zip (us ++ [u]) = _
    rw [zip_end (Nat.succ.inj h)]
    rfl
  | [], _ :: _, _, _, h => by cases h
  | _ :: _, [], _, _, h => by cases h
theorem fnQ_ofV (lk : K.lookup f = some ⟨oc, od, .func (PySem.W.fnOf name qual params body scope dV kV doc pm an cdv ct), osl⟩) (hcd : PySem.W.codeIn K cdv qual = true) (S : FnScope N (ps ++ [pv]) scope)
    (hb : BndV (PySem.W.fnOf name qual params body scope dV kV doc pm an cdv ct) ps pv) (hCX : CXNew CX)
    (hbody : ∀ (A : Around) (outer : List Env) (s : Shared) (H : Hp) (vs : List V) (Q : VK) (E : XK), RoomG b k (A.deeper (envOfC qual scope s.heap.objs.size f cdv)) → sp vs H Q E →
      ∃ t, PSs (cxOf CX P w K mg base N qual scope f cdv A outer s H E) body t ∧ t { nx := fun _ H' => Q .non H', rt := Q } (start N vs) H) :
    FnQ b P w K mg base CX (k + 1) f (spV ps.length sp) := by
  intro A outer s H us0 vs Q E hr e0 r hsp
  obtain ⟨vs1, rest, rfl, hl1, hl, hq⟩ := hsp
  obtain ⟨us, ur, rfl, ru, rr⟩ := vals_split r
  have hlu : us.length = ps.length := ru.length.symm.trans hl1
  have hl' : ur.length ≤ sizeLine := by rw [← rr.length]; exact hl
  have KX : K.In s.heap := e0.mod.kin.keeps fun b o e => (e0.bs b o e).1
  have hn : H s.heap.objs.size = none := e0.hok.fresh (Nat.le_refl _)
  have hp := hq s.heap.objs.size hn
  have kp : ∀ b o, s.heap.get? b = some o → (s.heap.push ({ cls := .type "tuple", data := .seq ur.toArray } : Obj)).get? b = some o := fun b o e => Heap.get?_push_of_some _ e
  obtain ⟨e2, un⟩ := env0_tup e0 rr hl
  have lim : (s.heap.push ({ cls := .type "tuple", data := .seq ur.toArray } : Obj)).NoLimit := e0.mod.nolimit.keeps fun b o e => (e2.bs b o e).1
  have hkind : ∀ y ∈ (ps ++ [pv]).zip (us ++ [Value.ref s.heap.objs.size]), scope.names.lookup y.1 = some .local ∨
      (scope.names.lookup y.1 = some .cell ∧ ((cellsFrom ((s.heap.push ({ cls := .type "tuple", data := .seq ur.toArray } : Obj)).objs.size + 1) scope.names []).lookup y.1).isSome = true) := fun y hy => by
    rcases S.par y.1 (List.of_mem_zip hy).1 with q | q
    · exact .inl q
    · exact .inr ⟨q, PySem.W.cellsFrom_some _ _ _ (.inl q)⟩
  refine codeAny_call_function hr.rm.depth (KX _ _ lk) rfl S.co S.gen rfl (PySem.W.codeRec_of KX hcd) ?_
  rw [hb us ur hlu]
  refine wpAny_bind (wpAny_newTuple (wpAny_pure ?_) hl')
  rw [← zip_end hlu]
  refine wpAny_newFunctionEnv_cells (s := { s with heap := s.heap.push ({ cls := .type "tuple", data := .seq ur.toArray } : Obj) }) S.kind hkind fun env he s1 x => ?_
  subst he
  refine ⟨lim.keeps x.toInCall.keep, codeAny_func ?_⟩
  obtain ⟨t, ht, hq'⟩ := hbody A outer { s with heap := s.heap.push ({ cls := .type "tuple", data := .seq ur.toArray } : Obj) } (upd H s.heap.objs.size (.tup rest)) (vs1 ++ [.ref s.heap.objs.size]) Q E (hr.deeper _) hp
  have r2 : Vals (vs1 ++ [V.ref s.heap.objs.size]) (us ++ [Value.ref s.heap.objs.size]) := ru.append (.cons rfl .nil)
  have I : Inv (cxOf CX P w K mg base N qual scope f cdv A outer { s with heap := s.heap.push ({ cls := .type "tuple", data := .seq ur.toArray } : Obj) } (upd H s.heap.objs.size (.tup rest)) E) [] (start N (vs1 ++ [.ref s.heap.objs.size])) (upd H s.heap.objs.size (.tup rest)) s1 :=
    inv_start S hr.rm.hd e2 (by rw [List.length_append, List.length_append, hl1]; rfl) r2 x
  refine wpAny_mono (ht.run [] s1 _ _ _ I hq') (fun fl s' hs => ?_) fun e s' hs => ?_
  · cases fl with
    | ret u' =>
      obtain ⟨v', σ', H', J, rv', q⟩ := hs
      exact ⟨v', H', J.os, J.bare, un.trans J.base, J.hok, rv', q⟩
    | next =>
      obtain ⟨σ', H', J, q⟩ := hs
      exact ⟨V.non, H', J.os, J.bare, un.trans J.base, J.hok, rfl, q⟩
    | brk =>
      obtain ⟨_, _, _, q⟩ := hs
      exact False.elim q
    | cont =>
      obtain ⟨_, _, _, q⟩ := hs
      exact False.elim q
  · exact wpAny_mono hs (fun _ s'' z => hCX outer s H _ _ rest E e s'' kp (Nat.le_refl _) hn z) fun e' s'' z => hCX outer s H _ _ rest E e' s'' kp (Nat.le_refl _) hn z
variable {cl : Value} {cld : Option Addr} {csl : Array (Option Value)} {cc D : Addr}
/-- .. that says super() -/
theorem fnQ_ofSV (lk : K.lookup f = some ⟨oc, od, .func (ksFn name qual params body scope dV kV doc pm an cdv ct cc), osl⟩) (hcd : PySem.W.codeIn K cdv qual = true) (hc : K.lookup cc = some ⟨cl, cld, .cell (some (.ref D)), csl⟩) (S : FnScopeS N (ps ++ [pv]) scope)
    (hb : BndV (ksFn name qual params body scope dV kV doc pm an cdv ct cc) ps pv) (hCX : CXNew CX)
    (hbody : ∀ (A : Around) (outer : List Env) (s : Shared) (H : Hp) (vs : List V) (Q : VK) (E : XK), RoomG b k (A.deeper (callEnv (ksFn name qual params body scope dV kV doc pm an cdv ct cc) s.heap.objs.size f)) → sp vs H Q E →
      ∃ t, PSsA (cxOfS CX P w K mg base N (ksFn name qual params body scope dV kV doc pm an cdv ct cc) f A outer s H E) (.func body (callEnv (ksFn name qual params body scope dV kV doc pm an cdv ct cc) s.heap.objs.size f)) body t ∧ t { nx := fun _ H' => Q .non H', rt := Q } (L2.start N vs) H) :
    FnQ b P w K mg base CX (k + 1) f (spV ps.length sp) := by
  intro A outer s H us0 vs Q E hr e0 r hsp
  obtain ⟨vs1, rest, rfl, hl1, hl, hq⟩ := hsp
  obtain ⟨us, ur, rfl, ru, rr⟩ := vals_split r
  have hlu : us.length = ps.length := ru.length.symm.trans hl1
  have hl' : ur.length ≤ sizeLine := by rw [← rr.length]; exact hl
  have KX : K.In s.heap := e0.mod.kin.keeps fun b o e => (e0.bs b o e).1
  have hn : H s.heap.objs.size = none := e0.hok.fresh (Nat.le_refl _)
  have hp := hq s.heap.objs.size hn
  have kp : ∀ b o, s.heap.get? b = some o → (s.heap.push ({ cls := .type "tuple", data := .seq ur.toArray } : Obj)).get? b = some o := fun b o e => Heap.get?_push_of_some _ e
  obtain ⟨e2, un⟩ := env0_tup e0 rr hl
  have lim : (s.heap.push ({ cls := .type "tuple", data := .seq ur.toArray } : Obj)).NoLimit := e0.mod.nolimit.keeps fun b o e => (e2.bs b o e).1
  have hloc : ∀ y ∈ (ps ++ [pv]).zip (us ++ [Value.ref s.heap.objs.size]), scope.names.lookup y.1 = some .local := fun y hy => S.par y.1 (List.of_mem_zip hy).1
  refine codeAny_call_function hr.rm.depth (KX _ _ lk) rfl S.co S.gen rfl (PySem.W.codeRec_of KX hcd) ?_
  rw [hb us ur hlu]
  refine wpAny_bind (wpAny_newTuple (wpAny_pure ?_) hl')
  rw [← zip_end hlu]
  refine wpAny_newFunctionEnv (s := { s with heap := s.heap.push ({ cls := .type "tuple", data := .seq ur.toArray } : Obj) }) S.nocell hloc (fun h₀ hns₀ hsb₀ => ⟨lim.fresh _ hsb₀, ks_codeAny_funcAt ?_⟩) S.kind
  have hk : ∀ b o, (s.heap.push ({ cls := .type "tuple", data := .seq ur.toArray } : Obj)).get? b = some o → h₀.get? b = some o := fun b o e => hsb₀.extBut b o (Nat.ne_of_lt (Heap.lt_size e)) (Heap.get?_push_of_some _ e)
  obtain ⟨t, ht, hq'⟩ := hbody A outer { s with heap := s.heap.push ({ cls := .type "tuple", data := .seq ur.toArray } : Obj) } (upd H s.heap.objs.size (.tup rest)) (vs1 ++ [.ref s.heap.objs.size]) Q E (hr.deeper _) hp
  have r2 : Vals (vs1 ++ [V.ref s.heap.objs.size]) (us ++ [Value.ref s.heap.objs.size]) := ru.append (.cons rfl .nil)
  have I := inv_startS (CX := CX) (E := E) (name := name) (qual := qual) (params := params) (body := body) (dV := dV) (kV := kV) (doc := doc) (pm := pm) (an := an) (cdv := cdv) (ct := ct) (f := f) (tk := s.toks + ((ps ++ [pv]).zip (us ++ [Value.ref s.heap.objs.size])).length) S hr.rm.hd e2 (by rw [List.length_append, List.length_append, hl1]; rfl) r2 hc hns₀ hk
  refine ks_wpAt_mono (ht.run [] _ (L2.start N (vs1 ++ [.ref s.heap.objs.size])) _ _ I hq') (fun fl s' hs => ?_) fun e s' hs => ?_
  · cases fl with
    | ret u' =>
      obtain ⟨v', σ', H', J, rv', q⟩ := hs
      exact ⟨v', H', J.os, J.bare, un.trans J.base, J.hok, rv', q⟩
    | next =>
      obtain ⟨σ', H', J, q⟩ := hs
      exact ⟨V.non, H', J.os, J.bare, un.trans J.base, J.hok, rfl, q⟩
    | brk =>
      obtain ⟨_, _, _, q⟩ := hs
      exact False.elim q
    | cont =>
      obtain ⟨_, _, _, q⟩ := hs
      exact False.elim q
  · exact wpAny_mono hs (fun _ s'' z => hCX outer s H _ _ rest E e s'' kp (Nat.le_refl _) hn z) fun e' s'' z => hCX outer s H _ _ rest E e' s'' kp (Nat.le_refl _) hn z
end
theorem seqNone : seqItems? Value.none = pure none := rfl
/-- parameters and a star -/
theorem bndV0 {fd : FuncData} {pv : Str} {av : Arg} {kd : List (Option Expr)} {df : List Expr} (hp : fd.params = { posonlyargs := [], args := [], vararg := some av, kwonlyargs := [], kw_defaults := kd, kwarg := none, defaults := df }) (hv : av.arg = pv) (hd : fd.defaults = .none) : BndV fd [] pv := by
  intro us rest hl
  match us, hl with
  | [], _ =>
    subst hv
    unfold bindArgs
    rw [hp, hd]
    simp [seqNone, List.lookup]
theorem bndV1 {fd : FuncData} {p0 : Str} {pv : Str} {a0 av : Arg} {kd : List (Option Expr)} {df : List Expr} (hp : fd.params = { posonlyargs := [], args := [a0], vararg := some av, kwonlyargs := [], kw_defaults := kd, kwarg := none, defaults := df }) (h0 : a0.arg = p0) (hv : av.arg = pv) (hd : fd.defaults = .none) : BndV fd [p0] pv := by
  intro us rest hl
  match us, hl with
  | [u], _ =>
    subst h0 hv
    unfold bindArgs
    rw [hp, hd]
    simp [seqNone, List.lookup]
theorem bndV2 {fd : FuncData} {p0 p1 : Str} {pv : Str} {a0 a1 av : Arg} {kd : List (Option Expr)} {df : List Expr} (hp : fd.params = { posonlyargs := [], args := [a0, a1], vararg := some av, kwonlyargs := [], kw_defaults := kd, kwarg := none, defaults := df }) (h0 : a0.arg = p0) (h1 : a1.arg = p1) (hne : (p1 == p0) = false) (hv : av.arg = pv) (hd : fd.defaults = .none) : BndV fd [p0, p1] pv := by
  intro us rest hl
  match us, hl with
  | [u, v], _ =>
    subst h0 h1 hv
    unfold bindArgs
    rw [hp, hd]
    have hne' : ¬ (a1.arg = a0.arg) := by simpa using hne
    simp [seqNone, List.lookup, hne]
/-! ### over data -/
section
variable {K : PySem.W.Frag} {mg : Str → Option Value} {T : List (Addr × Str)} {vs : List V} {H : Hp} {Q : VK} {E : XK} {n : Nat}
end
theorem FnQ.imp {b : Bool} {P : Program} {w : World} {K : PySem.W.Frag} {mg : Str → Option Value} {base : Heap} {CX : CXT} {k : Nat} {f : Addr} {sp sp' : Sp} (F : FnQ b P w K mg base CX k f sp) (h : ∀ vs H Q E, sp' vs H Q E → sp vs H Q E) : FnQ b P w K mg base CX k f sp' :=
  fun A outer s H us vs Q E hr e0 r q => F A outer s H us vs Q E hr e0 r (h vs H Q E q)
end
/-! #### 20 -/
section
open PySem.W (ksFn Frag)
/-! ### defs of a class that say super() -/
structure FunS (P : Program) (K : Frag) (name qual : Str) (params : Arguments) (body : List Stmt) (scope : Scope) (D f : Addr) (fd : FuncData) : Prop where
  ex : ∃ (oc : Value) (od : Option Addr) (kV doc pm : Value) (an : Option Addr) (cda : Addr) (ct : Value) (cc : Addr) (osl : Array (Option Value)), fd = ksFn name qual params body scope .none kV doc pm an (.ref cda) ct cc ∧ K.lookup f = some ⟨oc, od, .func fd, osl⟩ ∧ PySem.W.codeIn K (.ref cda) qual = true ∧
    (∃ cl cld csl, K.lookup cc = some ⟨cl, cld, .cell (some (.ref D)), csl⟩) ∧ ∃ occ ocd vs cosl file tf, K.lookup cda = some ⟨occ, ocd, .fields vs, cosl⟩ ∧ vs[2]? = some (.str file tf) ∧ ((P.main.file : Str) == file) = true
/-- the def's context -/
structure EnvT (scope : Scope) (params : Arguments) (N : List Str) (x0 : Str) : Prop where
  ks : scope.names.lookup ("super" : Str) = some .globalImplicit
  kc : scope.names.lookup ("__class__" : Str) = some .free
  par : ∃ ar : Arg, (params.posonlyargs ++ params.args).head? = some ar ∧ ar.arg = x0
  at0 : N[0]? = some x0
  vis : scope.names.lookup x0 = some .local
section
end
end
section
open PySem.W (ksFn Frag)
variable {P : Program} {w : World} {K : Frag} {mg : Str → Option Value} {T : List (Addr × Str)} {base : Heap} {name qual : Str} {params : Arguments} {body : List Stmt} {scope : Scope} {D f : Addr} {fd : FuncData} {b : Bool} {N ps : List Str} {k : Nat} {CX : CXT} {x0 : Str}
theorem FunS.env (Fs : FunS P K name qual params body scope D f fd) (sc : EnvT scope params N x0) (noS : mg "super" = none) (top : (P.main.scope.names.lookup ("super" : Str)).isSome = false) {A : Around} {outer : List Env} {s : Shared} {H : Hp} {E : XK} :
    EnvS (cxOfS CX P w K mg base N fd f A outer s H E) D x0 0 := by
  obtain ⟨oc, od, kV, doc, pm, an, cda, ct, cc, osl, rfl, lk, hcd, ⟨cl, cld, csl, hc⟩, occ, ocd, vs, cosl, file, tf, h1, h2, h3⟩ := Fs.ex
  obtain ⟨ar, hp, ha⟩ := sc.par
  exact ⟨sc.ks, sc.kc, ⟨f, oc, od, _, osl, ar, rfl, lk, hp, ha⟩, ⟨cda, occ, ocd, vs, cosl, file, tf, rfl, h1, h2, h3⟩, top, noS, ⟨cc, cl, cld, csl, rfl, hc⟩, sc.at0, sc.vis⟩
/-- what is wanted of the body of such a def -/
def DerS (P : Program) (w : World) (K : Frag) (mg : Str → Option Value) (base : Heap) (CX : CXT) (b : Bool) (k : Nat) (body : List Stmt) (D f : Addr) (fd : FuncData) (N : List Str) (x0 : Str) (t : XK → TS) : Prop :=
  ∀ (A : Around) (outer : List Env) (s : Shared) (H : Hp) (E : XK), RoomG b k (A.deeper (callEnv fd s.heap.objs.size f)) → EnvS (cxOfS CX P w K mg base N fd f A outer s H E) D x0 0 → PSsA (cxOfS CX P w K mg base N fd f A outer s H E) (.func body (callEnv fd s.heap.objs.size f)) body (t E)
end

/-! #### 21 -/
section
open ClX
open PySem.W (ksFn Frag)
/-! ### defs as the head sees them, at any address -/
def dfW (K : Frag) (a : Addr) : SuW := match K.lookup a with
  | some ⟨_, _, .func fd, _⟩ => some (fd.name, fd.qualname, fd.params, fd.body, fd.scope, fd.globals, fd.closure.map (·.1), fd.builtins)
  | _ => none
def dfV (name qual : Str) (st : Stmt) (clo : List Str) : SuW := some (name, qual, defArgs st, .stmts (defBody st), defScope st, mainGlobals, clo, builtinsNs)
def noneB : Value → Bool
  | .none => true
  | _ => false
theorem noneB_ok {v : Value} (h : noneB v = true) : v = .none := by
  cases v <;> first | rfl | cases h
def plB (K : Frag) (a : Addr) (qual : Str) : Bool := PySem.W.keepIn K (.ref a) && (match K.lookup a with
  | some ⟨_, _, .func fd, _⟩ => noneB fd.defaults && PySem.W.codeIn K fd.code qual
  | _ => false)
theorem funD_of {K : Frag} {a : Addr} {name qual : Str} {st : Stmt} (W : dfW K a = dfV name qual st []) (B : plB K a qual = true) : ∃ fd, FunD K name qual (defArgs st) (defBody st) (defScope st) [] [] a fd := by
  unfold plB at B
  obtain ⟨hk, B⟩ := He.ba B
  unfold dfW dfV at W
  split at B
  · rename_i oc od fd osl ho
    rw [ho] at W
    obtain ⟨m1, m2, m3, m4, m5, m6, m7, m8, m9, m10, m11, m12, m13, m14, m15⟩ := fd
    simp only [Option.some.injEq, Prod.mk.injEq] at W
    obtain ⟨e1, e2, e3, e4, e5, e6, e7, e8⟩ := W
    obtain ⟨B1, B2⟩ := He.ba B
    have e9 := noneB_ok B1
    have e10 : m7 = [] := List.map_eq_nil_iff.mp e7
    dsimp only at e9 B2
    subst e1 e2 e3 e4 e5 e6 e8 e9 e10
    exact ⟨_, ⟨oc, od, .none, m9, m10, m11, m12, m13, m14, osl, rfl, ho, B2, .inl ⟨rfl, rfl⟩, .inl rfl⟩, hk⟩
  · cases B
def spB (file : Str) (K : Frag) (a D : Addr) : Bool := match K.lookup a with
  | some ⟨_, _, .func fd, _⟩ => noneB fd.defaults && ((match fd.code with
    | .ref cda => PySem.W.codeIn K (.ref cda) fd.qualname && (match K.lookup cda with
      | some ⟨_, _, .fields vs, _⟩ => (match (vs[2]? : Option Value) with
        | some (Value.str z _) => file == z
        | _ => false)
      | _ => false)
    | _ => false) && (match fd.closure with
    | [(_, cc)] => (match K.lookup cc with
      | some ⟨_, _, .cell (some (.ref D')), _⟩ => D' == D
      | _ => false)
    | _ => false))
  | _ => false
theorem funS_of {P : Program} {K : Frag} {a D : Addr} {name qual : Str} {st : Stmt} (W : dfW K a = dfV name qual st ["__class__"]) (B : spB P.main.file K a D = true) : ∃ fd, FunS P K name qual (defArgs st) (defBody st) (defScope st) D a fd := by
  unfold spB at B
  unfold dfW dfV at W
  split at B
  · rename_i oc od fd osl ho
    rw [ho] at W
    obtain ⟨m1, m2, m3, m4, m5, m6, m7, m8, m9, m10, m11, m12, m13, m14, m15⟩ := fd
    simp only [Option.some.injEq, Prod.mk.injEq] at W
    obtain ⟨e1, e2, e3, e4, e5, e6, e7, e8⟩ := W
    subst e1 e2 e3 e4 e5 e6 e8
    obtain ⟨B1, Br⟩ := He.ba B
    clear B
    obtain ⟨B2, B3⟩ := He.ba Br
    clear Br
    have e9 := noneB_ok B1
    dsimp only at e9 B2 B3
    subst e9
    split at B2
    · rename_i cda
      obtain ⟨C1, C2⟩ := He.ba B2
      split at C2
      · rename_i ccl cdd vs ccs hcode
        split at C2
        · rename_i z tf hvs
          split at B3
          · rename_i nm cc
            split at B3
            · rename_i cl cld D' csl hcell
              have eD : D' = D := by simpa using B3
              subst eD
              have enm : nm = ("__class__" : Str) := by
                have q : [nm] = [("__class__" : Str)] := e7
                exact (List.cons.inj q).1
              subst enm
              exact ⟨_, oc, od, m9, m10, m11, m12, cda, m14, cc, osl, rfl, ho, C1, ⟨cl, cld, csl, hcell⟩, ccl, cdd, vs, ccs, z, tf, hcode, hvs, C2⟩
            · cases B3
          · cases B3
        · cases C2
      · cases C2
    · cases B2
  · cases B
/-! ### facts of classes -/
abbrev clsF (K : Frag) (C : Str) : Bool := (He.Fa.cls C).ok K
def methB (K : Frag) (C B m : Str) : Bool := He.eqO (PySem.W.findIn K (.ref (He.ga K C)) m) (some (some (.ref (He.ma K (He.ga K B) m)))) && (PySem.W.isFn K (.ref (He.ma K (He.ga K B) m)) && PySem.W.keepIn K (.ref (He.ma K (He.ga K B) m)))
theorem methB_ok {K : Frag} {C B m : Str} (h : methB K C B m = true) : Meth K (He.ga K C) m (He.ma K (He.ga K B) m) := by
  obtain ⟨h1, h⟩ := He.ba h
  obtain ⟨h2, h3⟩ := He.ba h
  exact ⟨He.eqO_ok h1, h2, h3⟩
/-- C(..), __init__ that of B -/
def mkB (K : Frag) (C B : Str) : Bool := PySem.W.makesIn K (He.ga K C) && (He.eqO (PySem.W.findIn K (.ref (He.ga K C)) "__init__") (some (some (.ref (He.ma K (He.ga K B) "__init__")))) && (PySem.W.isFn K (.ref (He.ma K (He.ga K B) "__init__")) && PySem.W.keepIn K (.ref (He.ga K C))))
theorem mkB_ok {K : Frag} {C B : Str} (h : mkB K C B = true) : Mk K (He.ga K C) (He.ma K (He.ga K B) "__init__") := by
  obtain ⟨h1, h⟩ := He.ba h
  obtain ⟨h2, h⟩ := He.ba h
  obtain ⟨h3, h4⟩ := He.ba h
  exact ⟨h1, He.eqO_ok h2, h3, h4⟩
/-- the def within a property, a classmethod -/
def inG (kind : String) (K : Frag) (C f : Str) : Addr := match PySem.W.recIn K (He.ma K (He.ga K C) f) kind with
  | some (.ref g :: _) => g
  | _ => 0
abbrev prG : Frag → Str → Str → Addr := inG "property"
def inB (kind : String) (K : Frag) (C f : Str) : Bool := match PySem.W.recIn K (He.ma K (He.ga K C) f) kind with
  | some (.ref _ :: _) => true
  | _ => false
theorem inB_ok {kind : String} {K : Frag} {C f : Str} (h : inB kind K C f = true) : ∃ rest, PySem.W.recIn K (He.ma K (He.ga K C) f) kind = some (.ref (inG kind K C f) :: rest) := by
  unfold inB at h
  unfold inG
  split at h
  · rename_i g rest e
    rw [e]
    exact ⟨rest, rfl⟩
  · cases h
/-- C has the property f that B defines -/
def propB (K : Frag) (C B f : Str) : Bool := He.eqO (PySem.W.findIn K (.ref (He.ga K C)) f) (some (some (.ref (He.ma K (He.ga K B) f)))) && (He.eqO (PySem.W.specialIn K (.ref (He.ma K (He.ga K B) f)) "__get__") (some (some (.builtin "property.__get__"))) && (decide (PySem.W.takesIn K (.ref (He.ma K (He.ga K B) f)) = some true) && inB "property" K B f))
theorem propB_ok {K : Frag} {C B f : Str} (h : propB K C B f = true) : PropOf K (He.ga K C) f (He.ma K (He.ga K B) f) (prG K B f) := by
  obtain ⟨h1, h⟩ := He.ba h
  obtain ⟨h2, h⟩ := He.ba h
  obtain ⟨h3, h4⟩ := He.ba h
  exact ⟨He.eqO_ok h1, He.eqO_ok h2, of_decide_eq_true h3, inB_ok h4⟩
def tyB (K : Frag) (C : Str) : Bool := clsF K C && (He.eqO (PySem.W.findIn K (.ref (He.ga K C)) "__class__") (some (some (.builtin "object.__class__"))) && (He.eqO (PySem.W.specialIn K (.builtin "object.__class__") "__get__") (some (some (.builtin "getset_descriptor.__get__"))) &&
  (decide (PySem.W.takesIn K (.builtin "object.__class__") = some true) && decide (PySem.W.mroIn K (He.ga K C) (.type "object") = some true))))
theorem tyB_ok {K : Frag} {C : Str} (h : tyB K C = true) : TyC K (He.ga K C) := by
  obtain ⟨h1, h⟩ := He.ba h
  obtain ⟨h2, h⟩ := He.ba h
  obtain ⟨h3, h⟩ := He.ba h
  obtain ⟨h4, h5⟩ := He.ba h
  exact ⟨He.cls_ok h1, He.eqO_ok h2, He.eqO_ok h3, of_decide_eq_true h4, of_decide_eq_true h5⟩
/-- C's __eq__ is that of B -/
structure EqC (K : Frag) (C B : Str) : Prop where
  eq : PySem.W.findIn K (.ref (He.ga K C)) "__eq__" = some (some (.ref (He.ma K (He.ga K B) "__eq__")))
  fn : PySem.W.isFn K (.ref (He.ma K (He.ga K B) "__eq__")) = true
  ne : PySem.W.findIn K (.ref (He.ga K C)) "__ne__" = some (some (.builtin "object.__ne__"))
  mro : PySem.W.mroIn K (He.ga K C) (.type "object") = some true
def eqB (K : Frag) (C B : Str) : Bool := He.eqO (PySem.W.findIn K (.ref (He.ga K C)) "__eq__") (some (some (.ref (He.ma K (He.ga K B) "__eq__")))) && (PySem.W.isFn K (.ref (He.ma K (He.ga K B) "__eq__")) && (He.eqO (PySem.W.findIn K (.ref (He.ga K C)) "__ne__") (some (some (.builtin "object.__ne__"))) && decide (PySem.W.mroIn K (He.ga K C) (.type "object") = some true)))
theorem eqB_ok {K : Frag} {C B : Str} (h : eqB K C B = true) : EqC K C B := by
  obtain ⟨h1, h⟩ := He.ba h
  obtain ⟨h2, h⟩ := He.ba h
  obtain ⟨h3, h4⟩ := He.ba h
  exact ⟨He.eqO_ok h1, h2, He.eqO_ok h3, of_decide_eq_true h4⟩
/-- super().m in D, for an instance of C, is B's -/
def supMB (K : Frag) (C D B m : Str) : Bool := (PySem.W.clsIn K (He.ga K C)).isSome && ((PySem.W.clsIn K (He.ga K D)).isSome && (He.eqO (PySem.W.ks_superIn K (He.ga K C) (He.ga K D) m) (some (some (.ref (He.ma K (He.ga K B) m)))) && (PySem.W.fnIn K (He.ma K (He.ga K B) m) && (ftIn K (He.ma K (He.ga K B) m) &&
  (He.eqO (PySem.W.nsIn K cStatics "thirdparty.any") (some none) && (decide (PySem.W.subIn K (.ref (He.ga K C)) (.ref (He.ga K D)) = some true) && !(m == ("__class__" : Str))))))))
theorem supMB_ok {K : Frag} {C D B m : Str} (h : supMB K C D B m = true) : SupM K (He.ga K C) (He.ga K D) m (He.ma K (He.ga K B) m) := by
  obtain ⟨h1, h⟩ := He.ba h
  obtain ⟨h2, h⟩ := He.ba h
  obtain ⟨h3, h⟩ := He.ba h
  obtain ⟨h4, h⟩ := He.ba h
  obtain ⟨h5, h⟩ := He.ba h
  obtain ⟨h6, h⟩ := He.ba h
  obtain ⟨h7, h8⟩ := He.ba h
  exact ⟨h1, h2, He.eqO_ok h3, h4, h5, He.eqO_ok h6, of_decide_eq_true h7, by simpa using h8⟩
/-- C.f at the class is a constant -/
def cvB (K : Frag) (C f : Str) (v : V) : Bool := PySem.W.readsIn K (He.ga K C) (.type "type") && (He.eqO (PySem.W.specialIn K (.ref (He.ga K C)) "__getattribute__") (some (some (.builtin "type.__getattribute__"))) && (match PySem.W.findCls K (.ref (He.ga K C)) (.type "type") f with
  | some (.val u) => He.relB v u
  | _ => false))
theorem cvB_ok {K : Frag} {C f : Str} {v : V} (h : cvB K C f v = true) : CRead K (He.ga K C) (.type "type") ∧ ∃ u, CVal K (He.ga K C) (.type "type") f v u := by
  obtain ⟨h1, h⟩ := He.ba h
  obtain ⟨h2, h3⟩ := He.ba h
  refine ⟨⟨h1, He.eqO_ok h2⟩, ?_⟩
  split at h3
  · rename_i u e
    exact ⟨u, e, He.relB_ok h3⟩
  · cases h3
theorem pe_cvC {X : Cx} {C f : Str} {v : V} {e : Expr} {pos : Pos} (he : PE X e (tC (.ref (He.ga X.K C)))) (hv : CRead X.K (He.ga X.K C) (.type "type") ∧ ∃ u, CVal X.K (He.ga X.K C) (.type "type") f v u) (hb : attributeBase e f X.env (eval e X.env) = eval e X.env := by rfl) : PE X (.Attribute e f pos) (tC v) := by
  obtain ⟨h1, u, h2⟩ := hv
  refine ⟨fun pins s σ H Q I h => (pe_cval he hb).run pins s σ H Q I ?_⟩
  exact ⟨_, _, v, u, rfl, h1, h2, h⟩
/-! ### the Hook -/
structure SaysX (fa : List He.Fa) (fn : List He.DefD) (su : List (Frag → Addr)) (sv : List SuW) (tf : List He.Defn) (ex : Frag → Bool) (h : Heap) (K : Frag) : Prop where
  d : He.SaysD fa fn K
  s : su.map (fun a => dfW K (a K)) = sv
  more : ex K = true
  hd : ∀ p ∈ tf, PySem.W.codeHdIn K (He.cT K p).1 (He.cT K p).2 = true
  out : ∀ p ∈ tf, K.lookup (He.cT K p).2 = none
  empty : ∀ p ∈ tf, h.get? (He.cT K p).2 = some tabO
def obsX (n : Nat) (fa : List He.Fa) (fn : List He.DefD) (su : List (Frag → Addr)) (tf : List He.Defn) (ex : Frag → Bool) (g : Addr → Option Obj) : AlU :=
  ((He.obsD fa fn (frU n g), su.map (fun a => dfW (frU n g) (a (frU n g)))), ex (frU n g) && He.tabsB g tf (frU n g))
theorem saysX_of {n : Nat} {fa : List He.Fa} {fn : List He.DefD} {su : List (Frag → Addr)} {sv : List SuW} {tf : List He.Defn} {ex : Frag → Bool} {h : Heap} (e : obsX n fa fn su tf ex h.get? = valU fn sv) : SaysX fa fn su sv tf ex h (frU n h.get?) := by
  have e1 : He.obsD fa fn (frU n h.get?) = He.valD fn := congrArg (fun z : AlU => z.1.1) e
  have e2 : su.map (fun a => dfW (frU n h.get?) (a (frU n h.get?))) = sv := congrArg (fun z : AlU => z.1.2) e
  have e3 : (ex (frU n h.get?) && He.tabsB h.get? tf (frU n h.get?)) = true := congrArg (fun z : AlU => z.2) e
  obtain ⟨h1, h2⟩ := He.ba e3
  have look : ∀ p ∈ tf, PySem.W.codeHdIn (frU n h.get?) (He.cT (frU n h.get?) p).1 (He.cT (frU n h.get?) p).2 = true ∧ ∃ o, h.get? (He.cT (frU n h.get?) p).2 = some o ∧ He.emptyTab o = true := by
    intro p hp
    obtain ⟨h3, h4⟩ := He.ba (List.all_eq_true.mp h2 p hp)
    refine ⟨h3, ?_⟩
    split at h4
    · rename_i o q
      exact ⟨o, q, h4⟩
    · cases h4
  refine ⟨e1, e2, h1, fun p hp => (look p hp).1, fun p hp => ?_, fun p hp => ?_⟩
  · obtain ⟨_, o, q, z⟩ := look p hp
    exact He.frT_none q z
  · obtain ⟨_, o, q, z⟩ := look p hp
    rw [q, He.emptyTab_eq z]
def hookX (n : Nat) (fa : List He.Fa) (fn : List He.DefD) (su : List (Frag → Addr)) (sv : List SuW) (tf : List He.Defn) (ex : Frag → Bool) : PySem.W.Hook where
  α := AlU
  obs := fun s => obsX n fa fn su tf ex s.heap.get?
  val := fun _ => valU fn sv
  says := fun _ h => ∃ K : Frag, K.In h ∧ SaysX fa fn su sv tf ex h K
  of := fun _ _ e => ⟨_, He.frT_in, saysX_of e⟩
  keeps := fun _ _ _ ⟨K, hK, c⟩ k => ⟨K, PySem.W.Frag.In.keeps hK k, ⟨c.d, c.s, c.more, c.hd, c.out, fun p hp => k _ _ (c.empty p hp)⟩⟩
theorem obsX_eq {n : Nat} {fa : List He.Fa} {fn : List He.DefD} {su : List (Frag → Addr)} {sv : List SuW} {tf : List He.Defn} {ex : Frag → Bool} {g : Addr → Option Obj} {s : Shared} (h : ∀ a, g a = s.heap.get? a) : obsX n fa fn su tf ex g = (hookX n fa fn su sv tf ex).obs s := by
  have e : g = s.heap.get? := funext h
  subst e
  rfl
theorem SaysX.at_ {fa : List He.Fa} {fn : List He.DefD} {su : List (Frag → Addr)} {sv : List SuW} {tf : List He.Defn} {ex : Frag → Bool} {h : Heap} {K : Frag} (c : SaysX fa fn su sv tf ex h K) (i : Nat) {x : Frag → Addr} {v : SuW} (h1 : su[i]? = some x) (h2 : sv[i]? = some v) : dfW K (x K) = v := by
  have e := c.s
  rw [← e, List.getElem?_map, h1] at h2
  exact Option.some.inj h2
/-! ### binding -/
section
variable {P : Program} {K : Frag} {x qual : Str} {params : Arguments} {body : List Stmt} {scope : Scope} {D f : Addr} {fd : FuncData} {ps ks : List Str} {n : Nat} {ix : List Nat}
theorem FunS.bindsN (F : FunS P K x qual params body scope D f fd)
    (h : ∀ (kV doc pm : Value) (an : Option Addr) (cdv ct : Value) (cc : Addr) (us : List Value), us.length = ps.length → bindArgs (ksFn x qual params body scope .none kV doc pm an cdv ct cc) ⟨us, []⟩ = pure (ps.zip us)) : Binds K fd ps [] := by
  obtain ⟨oc, od, kV, doc, pm, an, cda, ct, cc, osl, rfl, lk, hcd, _⟩ := F.ex
  exact .all (h kV doc pm an (.ref cda) ct cc)
theorem FunS.kbn (F : FunS P K x qual params body scope D f fd)
    (h : ∀ (kV doc pm : Value) (an : Option Addr) (cdv ct : Value) (cc : Addr) (us ws : List Value), us.length = n → ws.length = ks.length → bindArgs (ksFn x qual params body scope .none kV doc pm an cdv ct cc) ⟨us, ks.zip ws⟩ = pure (ps.zip (gPm ix us ws))) : KBn K fd ps n ks (gPm ix) (gPm ix) := by
  obtain ⟨oc, od, kV, doc, pm, an, cda, ct, cc, osl, rfl, lk, hcd, _⟩ := F.ex
  exact ⟨fun s us ws _ h1 h2 => BindsTo.of_eq (h kV doc pm an (.ref cda) ct cc us ws h1 h2), rel_pm ix⟩
theorem kbn_D (F : FunD K x qual params body scope [] [] f fd)
    (h : ∀ (kV doc pm : Value) (an : Option Addr) (cdv ct : Value) (us ws : List Value), us.length = n → ws.length = ks.length → bindArgs (PySem.W.fnOf x qual params body scope .none kV doc pm an cdv ct) ⟨us, ks.zip ws⟩ = pure (ps.zip (gPm ix us ws))) : KBn K fd ps n ks (gPm ix) (gPm ix) := by
  obtain ⟨oc, od, dV, kV, doc, pm, an, cdv, ct, osl, rfl, lk, hcd, hD, _⟩ := F.ex
  have hdV : dV = .none := by
    rcases hD with ⟨_, h⟩ | ⟨h, _⟩
    · exact h
    · exact absurd rfl h
  subst hdV
  exact ⟨fun s us ws _ h1 h2 => BindsTo.of_eq (h kV doc pm an cdv ct us ws h1 h2), rel_pm ix⟩
end
theorem al_nil {α : Type} {p : α → Prop} : ∀ x ∈ ([] : List α), p x := fun _ h => by cases h
theorem al_cons {α : Type} {p : α → Prop} {a : α} {l : List α} (h : p a) (t : ∀ x ∈ l, p x) : ∀ x ∈ a :: l, p x := fun x hx => by
  rcases List.mem_cons.mp hx with rfl | hx
  · exact h
  · exact t x hx
section
variable {X : Cx} {sp : Nat → Sp} {cs : List (Str × Nat)}
theorem OpR.or2 {f : Value → Value → Sem Value} {r r' : R2} (h : OpR X f r) (h' : OpR X f r') : OpR X f (fun x y H Q => r x y H Q ∨ r' x y H Q) := fun pins s σ H x y v u Q I rx ry h0 => by
  rcases h0 with h0 | h0
  · exact h pins s σ H x y v u Q I rx ry h0
  · exact h' pins s σ H x y v u Q I rx ry h0
end
end
end Pb
namespace Pb
open PySem PySem.Spec PyProof.Rows L2

/-! ### cells made free: at the end of a sealed thing the cells made within become data -/
mutual
def frzA (look : Nat → Option Dt) : Dt → Option Dt
  | .rf i => look i
  | .lst ds => (frzL look ds).map Dt.lst
  | .tup ds => (frzL look ds).map Dt.tup
  | .dic ks ds => (frzL look ds).map (Dt.dic ks)
  | .obj c ns ds => (frzL look ds).map (Dt.obj c ns)
  | .err c ns ds => (frzL look ds).map (Dt.err c ns)
  | .non => some .non
  | .bl b => some (.bl b)
  | .int i => some (.int i)
  | .str x => some (.str x)
  | .pen => some .pen
  | .cls c => some (.cls c)
def frzL (look : Nat → Option Dt) : List Dt → Option (List Dt)
  | [] => some []
  | d :: ds => (frzA look d).bind fun x => (frzL look ds).map fun xs => x :: xs
end
def look (N : Nat) (s : List Dt) : Nat → Nat → Option Dt
  | 0, i => if i < N then some (.rf i) else none
  | k + 1, i => if i < N then some (.rf i) else (s[i]?).bind (frzA (look N s k))
def frz (N : Nat) (s : List Dt) (d : Dt) : Option Dt := frzA (look N s 8) d
def frzs (N : Nat) (s : List Dt) : List (Str × Dt) → Option (List (Str × Dt))
  | [] => some []
  | p :: ps => (frz N s p.2).bind fun x => (frzs N s ps).map fun xs => (p.1, x) :: xs
mutual
def refB (N : Nat) : Dt → Prop
  | .rf i => i < N
  | .lst ds => refBs N ds
  | .tup ds => refBs N ds
  | .dic _ ds => refBs N ds
  | .obj _ _ ds => refBs N ds
  | .err _ _ ds => refBs N ds
  | _ => True
def refBs (N : Nat) : List Dt → Prop
  | [] => True
  | d :: ds => refB N d ∧ refBs N ds
end
section
variable {c c' : Wc} {av av' : Addr → Prop} {H : Hp}
mutual
theorem Da.refB : ∀ (d : Dt) (v : V), Da c av H v d → refB c.y.m.length d
  | .rf i, _, h => by cases h with | rf h1 => exact (List.getElem?_eq_some_iff.mp h1).1
  | .lst ds, _, h => by cases h with | lst h1 h2 h3 => exact DaAll.refB ds _ h3
  | .tup ds, _, h => by cases h with | tup h2 h3 => exact DaAll.refB ds _ h3
  | .dic ks ds, _, h => by cases h with | dic h1 h2 h3 h4 => exact DaAll.refB ds _ h4
  | .obj cn ns ds, _, h => by cases h with | obj h1 h2 h3 h4 h5 => exact DaAll.refB ds _ h5
  | .err cn ns ds, _, h => by cases h with | err h1 h2 h3 h4 => exact DaAll.refB ds _ h4
  | .non, _, _ => trivial
  | .bl _, _, _ => trivial
  | .int _, _, _ => trivial
  | .str _, _, _ => trivial
  | .pen, _, _ => trivial
  | .cls _, _, _ => trivial
theorem DaAll.refB : ∀ (ds : List Dt) (vs : List V), DaAll c av H vs ds → refBs c.y.m.length ds
  | [], _, _ => trivial
  | d :: ds, _, h => by cases h with | cons h1 h2 => exact ⟨Da.refB d _ h1, DaAll.refB ds _ h2⟩
end
/-- a context with fewer cells -/
structure Less (c c' : Wc) (N : Nat) : Prop where
  K : c'.K = c.K
  mg : c'.mg = c.mg
  a : c'.a = c.a
  er : c'.er = c.er
  m : ∀ i, i < N → c'.y.m[i]? = c.y.m[i]?
mutual
theorem Da.trunc {N : Nat} (g : Less c c' N) (k : ∀ p, av' p → av p) : ∀ (d : Dt) (v : V), Da c av H v d → refB N d → Da c' av' H v d
  | .rf i, _, h, b => by cases h with | rf h1 => exact .rf (by rw [g.m i b]; exact h1)
  | .lst ds, _, h, b => by cases h with | lst h1 h2 h3 => exact .lst (fun z => h1 (k _ z)) h2 (DaAll.trunc g k ds _ h3 b)
  | .tup ds, _, h, b => by
    cases h with
    | tup h2 h3 =>
      refine .tup ?_ (DaAll.trunc g k ds _ h3 b)
      rw [g.K]
      rcases h2 with ⟨h1, h2⟩ | h2
      · exact .inl ⟨fun z => h1 (k _ z), h2⟩
      · exact .inr h2
  | .dic ks ds, _, h, b => by cases h with | dic h1 h2 h3 h4 => exact .dic (fun z => h1 (k _ z)) h2 h3 (DaAll.trunc g k ds _ h4 b)
  | .obj cn ns ds, _, h, b => by cases h with | obj h1 h2 h3 h4 h5 => exact .obj (fun z => h1 (k _ z)) (by rw [g.mg]; exact h2) h3 h4 (DaAll.trunc g k ds _ h5 b)
  | .err cn ns ds, _, h, b => by
    cases h with
    | err h1 h2 h3 h4 =>
      refine .err ?_ (by rw [g.mg]; exact h2) h3 (DaAll.trunc g k ds _ h4 b)
      rcases h1 with ⟨dd, a1, a2, a3⟩ | ⟨dd, a1, a2, a3, a4⟩
      · exact .inl ⟨dd, by rw [g.er]; exact a1, fun z => a2 (k _ z), a3⟩
      · exact .inr ⟨dd, fun z => a1 (k _ z), fun z => a2 (k _ z), a3, a4⟩
  | .non, _, h, _ => by cases h; exact .non
  | .bl _, _, h, _ => by cases h; exact .bl _
  | .int _, _, h, _ => by cases h; exact .int _
  | .str _, _, h, _ => by cases h; exact .str _
  | .pen, _, h, _ => by
    cases h
    rw [← g.a]
    exact .pen
  | .cls cn, _, h, _ => by cases h with | cls h1 => exact .cls (by rw [g.mg]; exact h1)
theorem DaAll.trunc {N : Nat} (g : Less c c' N) (k : ∀ p, av' p → av p) : ∀ (ds : List Dt) (vs : List V), DaAll c av H vs ds → refBs N ds → DaAll c' av' H vs ds
  | [], _, h, _ => by cases h; exact .nil
  | d :: ds, _, h, b => by cases h with | cons h1 h2 => exact .cons (Da.trunc g k d _ h1 b.1) (DaAll.trunc g k ds _ h2 b.2)
end
mutual
theorem Da.frzA {look : Nat → Option Dt} (g : Less c c' 0) (k : ∀ p, av' p → av p) (hl : ∀ i d p, look i = some d → c.y.m[i]? = some p → Da c' av' H (.ref p) d) : ∀ (d : Dt) (v : V) (d' : Dt), Da c av H v d → frzA look d = some d' → Da c' av' H v d'
  | .rf i, _, d', h, e => by cases h with | rf h1 => exact hl i d' _ e h1
  | .lst ds, _, d', h, e => by
    have e : (frzL look ds).map Dt.lst = some d' := e
    obtain ⟨es, e1, rfl⟩ := Option.map_eq_some_iff.mp e
    cases h with | lst h1 h2 h3 => exact .lst (fun z => h1 (k _ z)) h2 (DaAll.frzL g k hl ds _ es h3 e1)
  | .tup ds, _, d', h, e => by
    have e : (frzL look ds).map Dt.tup = some d' := e
    obtain ⟨es, e1, rfl⟩ := Option.map_eq_some_iff.mp e
    cases h with
    | tup h2 h3 =>
      refine .tup ?_ (DaAll.frzL g k hl ds _ es h3 e1)
      rw [g.K]
      rcases h2 with ⟨h1, h2⟩ | h2
      · exact .inl ⟨fun z => h1 (k _ z), h2⟩
      · exact .inr h2
  | .dic ks ds, _, d', h, e => by
    have e : (frzL look ds).map (Dt.dic ks) = some d' := e
    obtain ⟨es, e1, rfl⟩ := Option.map_eq_some_iff.mp e
    cases h with | dic h1 h2 h3 h4 => exact .dic (fun z => h1 (k _ z)) h2 h3 (DaAll.frzL g k hl ds _ es h4 e1)
  | .obj cn ns ds, _, d', h, e => by
    have e : (frzL look ds).map (Dt.obj cn ns) = some d' := e
    obtain ⟨es, e1, rfl⟩ := Option.map_eq_some_iff.mp e
    cases h with | obj h1 h2 h3 h4 h5 => exact .obj (fun z => h1 (k _ z)) (by rw [g.mg]; exact h2) h3 h4 (DaAll.frzL g k hl ds _ es h5 e1)
  | .err cn ns ds, _, d', h, e => by
    have e : (frzL look ds).map (Dt.err cn ns) = some d' := e
    obtain ⟨es, e1, rfl⟩ := Option.map_eq_some_iff.mp e
    cases h with
    | err h1 h2 h3 h4 =>
      refine .err ?_ (by rw [g.mg]; exact h2) h3 (DaAll.frzL g k hl ds _ es h4 e1)
      rcases h1 with ⟨dd, a1, a2, a3⟩ | ⟨dd, a1, a2, a3, a4⟩
      · exact .inl ⟨dd, by rw [g.er]; exact a1, fun z => a2 (k _ z), a3⟩
      · exact .inr ⟨dd, fun z => a1 (k _ z), fun z => a2 (k _ z), a3, a4⟩
  | .non, _, _, h, e => by cases h; cases e; exact .non
  | .bl _, _, _, h, e => by cases h; cases e; exact .bl _
  | .int _, _, _, h, e => by cases h; cases e; exact .int _
  | .str _, _, _, h, e => by cases h; cases e; exact .str _
  | .pen, _, _, h, e => by
    cases h; cases e
    rw [← g.a]
    exact .pen
  | .cls cn, _, _, h, e => by cases e; cases h with | cls h1 => exact .cls (by rw [g.mg]; exact h1)
theorem DaAll.frzL {look : Nat → Option Dt} (g : Less c c' 0) (k : ∀ p, av' p → av p) (hl : ∀ i d p, look i = some d → c.y.m[i]? = some p → Da c' av' H (.ref p) d) : ∀ (ds : List Dt) (vs : List V) (es : List Dt), DaAll c av H vs ds → Pb.frzL look ds = some es → DaAll c' av' H vs es
  | [], _, _, h, e => by cases h; cases e; exact .nil
  | d :: ds, _, es, h, e => by
    have e : ((Pb.frzA look d).bind fun x => (Pb.frzL look ds).map fun xs => x :: xs) = some es := e
    obtain ⟨x, e1, e2⟩ := Option.bind_eq_some_iff.mp e
    obtain ⟨xs, e3, rfl⟩ := Option.map_eq_some_iff.mp e2
    cases h with | cons h1 h2 => exact .cons (Da.frzA g k hl d _ x h1 e1) (DaAll.frzL g k hl ds _ xs h2 e3)
end
end
section
variable {c : Wc} {n n' : Cs} {H H' : Hp} {m : List Addr}
/-- the end of a sealed thing -/
theorem Lay.seal (L : Lay c n H) (x : Sx c.a c.y H ⟨m, c.y.ap⟩ H') (L' : Lay (c.at_ ⟨m, c.y.ap⟩) n' H') (hs : n'.s.take n.s.length = n.s) :
    Lay c ⟨n'.n, n.s⟩ H' ∧ Sx c.a c.y H c.y H' ∧ (∀ v d d', Da (c.at_ ⟨m, c.y.ap⟩) (c.at_ ⟨m, c.y.ap⟩).av H' v d → frz n.s.length n'.s d = some d' → Da c c.av H' v d') ∧ (∀ p, c.av p → (c.at_ ⟨m, c.y.ap⟩).av p) := by
  obtain ⟨t, ht⟩ := x.m
  have ht : m = c.y.m ++ t := ht.symm
  have w : ∀ p, c.av p → (c.at_ ⟨m, c.y.ap⟩).av p := fun p z => z.imp id fun z => z.imp (fun z => pre_mem x.m z) id
  have less : Less (c.at_ ⟨m, c.y.ap⟩) c n.s.length := ⟨rfl, rfl, rfl, rfl, fun i hi => by
    show c.y.m[i]? = m[i]?
    rw [ht, List.getElem?_append_left (by rw [← L.len]; exact hi)]⟩
  have less0 : Less (c.at_ ⟨m, c.y.ap⟩) c 0 := ⟨rfl, rfl, rfl, rfl, fun i hi => absurd hi (Nat.not_lt_zero i)⟩
  have old : ∀ (i : Nat) (d : Dt), n.s[i]? = some d → n'.s[i]? = some d := fun i d e => by
    have hi := (List.getElem?_eq_some_iff.mp e).1
    rw [← hs, List.getElem?_take] at e
    rwa [if_pos hi] at e
  have lay : Lay c ⟨n'.n, n.s⟩ H' := {
    pen := L'.pen
    pl := L.pl
    len := L.len
    nd := L.nd
    na := L.na
    dj := L.dj
    lv := L'.lv
    cel := fun i d p h1 h2 => by
      obtain ⟨vs, h3, h4⟩ := L'.cel i d p (old i d h1) (pre_get x.m h2)
      obtain ⟨ws, _, h5⟩ := L.cel i d p h1 h2
      have b := DaAll.refB _ _ h5
      rw [← L.len] at b
      exact ⟨vs, h3.ctx rfl, DaAll.trunc less w _ _ h4 b⟩ }
  refine ⟨lay, ⟨List.prefix_refl _, fun p h => .inl h, fun p h => .inl h, x.st⟩, fun v d d' h e => ?_, w⟩
  have key : ∀ (k i : Nat) (d : Dt) (p : Addr), look n.s.length n'.s k i = some d → m[i]? = some p → Da c c.av H' (.ref p) d := by
    intro k
    induction k with
    | zero =>
      intro i d p e1 e2
      unfold look at e1
      split at e1
      · rename_i hi
        cases e1
        refine .rf ?_
        rw [ht, List.getElem?_append_left (by rw [← L.len]; exact hi)] at e2
        exact e2
      · cases e1
    | succ k ih =>
      intro i d p e1 e2
      unfold look at e1
      split at e1
      · rename_i hi
        cases e1
        refine .rf ?_
        rw [ht, List.getElem?_append_left (by rw [← L.len]; exact hi)] at e2
        exact e2
      · rename_i hi
        obtain ⟨d0, e3, e4⟩ := Option.bind_eq_some_iff.mp e1
        obtain ⟨vs, h3, h4⟩ := L'.cel i d0 p e3 e2
        have np : ¬ c.av p := fun z => by
          rcases z with z | z | z
          · exact L'.na.1 (z ▸ List.mem_of_getElem? e2)
          · have e5 : t[i - c.y.m.length]? = some p := by
              rw [ht, List.getElem?_append_right (by rw [← L.len]; omega)] at e2
              exact e2
            have nd : (c.y.m ++ t).Nodup := ht ▸ L'.nd
            exact (List.nodup_append.mp nd).2.2 p z p (List.mem_of_getElem? e5) rfl
          · exact L'.dj p z (List.mem_of_getElem? e2)
        have kids : ∀ es, frzL (look n.s.length n'.s k) d0.kids = some es → DaAll c c.av H' vs es := fun es q => DaAll.frzL less0 w (fun i d p a b => ih i d p a b) _ _ es h4 q
        obtain ⟨o, g1, g2, g3, g4⟩ := h3
        cases d0 with
        | lst ds =>
          have e4 : (frzL (look n.s.length n'.s k) ds).map Dt.lst = some d := e4
          obtain ⟨es, q1, rfl⟩ := Option.map_eq_some_iff.mp e4
          cases (show o = .lst vs from g4)
          exact .lst np g1 (kids es q1)
        | dic ks ds =>
          have e4 : (frzL (look n.s.length n'.s k) ds).map (Dt.dic ks) = some d := e4
          obtain ⟨es, q1, rfl⟩ := Option.map_eq_some_iff.mp e4
          obtain ⟨kvs, rfl, a1, a2⟩ := (show ∃ kvs : List (Key × V), o = .dK kvs ∧ kvs.map (·.1) = ks ∧ kvs.map (·.2) = vs from g4)
          exact .dic np g1 a1 (a2 ▸ kids es q1)
        | obj cn ns ds =>
          have e4 : (frzL (look n.s.length n'.s k) ds).map (Dt.obj cn ns) = some d := e4
          obtain ⟨es, q1, rfl⟩ := Option.map_eq_some_iff.mp e4
          obtain ⟨C, dx, fs, a0, rfl, a1, a2⟩ := (show ∃ (C dx : Addr) (fs : List (Str × V)), c.mg cn = some (.ref C) ∧ o = .ins C dx fs ∧ fs.map (·.1) = ns ∧ fs.map (·.2) = vs from g4)
          exact .obj np a0 g1 a1 (a2 ▸ kids es q1)
        | _ => exact g4.elim
  exact Da.frzA less0 w (fun i d p a b => key 8 i d p a b) d v d' h e
end
/-! ### the same data -/
mutual
def Dt.same : Dt → Dt → Bool
  | .non, .non => true
  | .bl a, .bl b => a == b
  | .int a, .int b => decide (a = b)
  | .str a, .str b => decide (a = b)
  | .lst a, .lst b => Dt.sames a b
  | .tup a, .tup b => Dt.sames a b
  | .dic ks a, .dic ls b => decide (ks = ls) && Dt.sames a b
  | .obj c ns a, .obj d ms b => decide (c = d) && (decide (ns = ms) && Dt.sames a b)
  | .err c ns a, .err d ms b => decide (c = d) && (decide (ns = ms) && Dt.sames a b)
  | .pen, .pen => true
  | .cls c, .cls d => decide (c = d)
  | .rf i, .rf j => decide (i = j)
  | _, _ => false
def Dt.sames : List Dt → List Dt → Bool
  | [], [] => true
  | a :: as, b :: bs => Dt.same a b && Dt.sames as bs
  | _, _ => false
end
mutual
theorem Dt.same_eq : ∀ (a b : Dt), a.same b = true → a = b
  | .non, b, h => by cases b <;> first | rfl | (exact absurd h Bool.false_ne_true)
  | .bl a, b, h => by
    cases b with
    | bl b => simp only [Dt.same, beq_iff_eq] at h; rw [h]
    | _ => exact absurd h Bool.false_ne_true
  | .int a, b, h => by
    cases b with
    | int b => simp only [Dt.same, decide_eq_true_eq] at h; rw [h]
    | _ => exact absurd h Bool.false_ne_true
  | .str a, b, h => by
    cases b with
    | str b => simp only [Dt.same, decide_eq_true_eq] at h; rw [h]
    | _ => exact absurd h Bool.false_ne_true
  | .lst a, b, h => by
    cases b with
    | lst b => simp only [Dt.same] at h; rw [Dt.sames_eq a b h]
    | _ => exact absurd h Bool.false_ne_true
  | .tup a, b, h => by
    cases b with
    | tup b => simp only [Dt.same] at h; rw [Dt.sames_eq a b h]
    | _ => exact absurd h Bool.false_ne_true
  | .dic ks a, b, h => by
    cases b with
    | dic ls b => simp only [Dt.same, Bool.and_eq_true, decide_eq_true_eq] at h; rw [h.1, Dt.sames_eq a b h.2]
    | _ => exact absurd h Bool.false_ne_true
  | .obj c ns a, b, h => by
    cases b with
    | obj d ms b => simp only [Dt.same, Bool.and_eq_true, decide_eq_true_eq] at h; rw [h.1, h.2.1, Dt.sames_eq a b h.2.2]
    | _ => exact absurd h Bool.false_ne_true
  | .err c ns a, b, h => by
    cases b with
    | err d ms b => simp only [Dt.same, Bool.and_eq_true, decide_eq_true_eq] at h; rw [h.1, h.2.1, Dt.sames_eq a b h.2.2]
    | _ => exact absurd h Bool.false_ne_true
  | .pen, b, h => by cases b <;> first | rfl | (exact absurd h Bool.false_ne_true)
  | .cls c, b, h => by
    cases b with
    | cls d => simp only [Dt.same, decide_eq_true_eq] at h; rw [h]
    | _ => exact absurd h Bool.false_ne_true
  | .rf i, b, h => by
    cases b with
    | rf j => simp only [Dt.same, decide_eq_true_eq] at h; rw [h]
    | _ => exact absurd h Bool.false_ne_true
theorem Dt.sames_eq : ∀ (a b : List Dt), Dt.sames a b = true → a = b
  | [], [], _ => rfl
  | [], _ :: _, h => absurd h Bool.false_ne_true
  | _ :: _, [], h => absurd h Bool.false_ne_true
  | a :: as, b :: bs, h => by
    simp only [Dt.sames, Bool.and_eq_true] at h
    rw [Dt.same_eq a b h.1, Dt.sames_eq as bs h.2]
end
mutual
theorem Dt.same_refl : ∀ (a : Dt), a.same a = true
  | .non => rfl
  | .bl a => by simp [Dt.same]
  | .int a => by simp [Dt.same]
  | .str a => by simp [Dt.same]
  | .lst a => by simp only [Dt.same]; exact Dt.sames_refl a
  | .tup a => by simp only [Dt.same]; exact Dt.sames_refl a
  | .dic ks a => by simp only [Dt.same, Dt.sames_refl a]; simp
  | .obj c ns a => by simp only [Dt.same, Dt.sames_refl a]; simp
  | .err c ns a => by simp only [Dt.same, Dt.sames_refl a]; simp
  | .pen => rfl
  | .cls c => by simp [Dt.same]
  | .rf i => by simp [Dt.same]
theorem Dt.sames_refl : ∀ (a : List Dt), Dt.sames a a = true
  | [] => rfl
  | a :: as => by simp only [Dt.sames, Dt.same_refl a, Dt.sames_refl as]; rfl
end
/-- sealed: what is made within is free behind it, what stood stays as it was -/
def sealE (f : Ev Dt) : Ev Dt := fun l => match f l with
  | some (.ok d, l') => if Dt.sames (l'.2.take l.2.length) l.2 = true then (frz l.2.length l'.2 d).map fun d' => (.ok d', (l'.1, l.2)) else none
  | some (.ex cn es, l') => if Dt.sames (l'.2.take l.2.length) l.2 = true then (frzs l.2.length l'.2 es).map fun es' => (.ex cn es', (l'.1, l.2)) else none
  | none => none
section
variable {f : Ev Dt} {n m : Cs} {d : Dt}
theorem NS.seal (h : NS (sealE f) n) : NS f n := fun l hl => by
  obtain ⟨x, e⟩ := h l hl
  unfold sealE at e
  cases q : f (l, n.s) with
  | none => rw [q] at e; cases e
  | some y => exact ⟨y, rfl⟩
theorem Hit.seal (h : NS (sealE f) n) (q : Hit f n (.ok d) m) : m.s.take n.s.length = n.s ∧ ∃ d', frz n.s.length m.s d = some d' ∧ Hit (sealE f) n (.ok d') ⟨m.n, n.s⟩ := by
  obtain ⟨u, hu, e⟩ := q
  obtain ⟨l, hl⟩ := lens m.n
  obtain ⟨x, e2⟩ := h (u ++ l) (app_len hu hl)
  unfold sealE at e2
  rw [e l hl] at e2
  dsimp only at e2
  split at e2
  · rename_i ht
    refine ⟨Dt.sames_eq _ _ ht, ?_⟩
    cases q : frz n.s.length m.s d with
    | none => rw [q] at e2; cases e2
    | some d' =>
      refine ⟨d', rfl, u, hu, fun l hl => ?_⟩
      unfold sealE
      rw [e l hl]
      dsimp only
      rw [if_pos ht, q]
      rfl
  · cases e2
theorem Hit.sealX {cn : Str} {es : List (Str × Dt)} (h : NS (sealE f) n) (q : Hit f n (.ex cn es) m) : m.s.take n.s.length = n.s ∧ ∃ es', frzs n.s.length m.s es = some es' ∧ Hit (sealE f) n (.ex cn es') ⟨m.n, n.s⟩ := by
  obtain ⟨u, hu, e⟩ := q
  obtain ⟨l, hl⟩ := lens m.n
  obtain ⟨x, e2⟩ := h (u ++ l) (app_len hu hl)
  unfold sealE at e2
  rw [e l hl] at e2
  dsimp only at e2
  split at e2
  · rename_i ht
    refine ⟨Dt.sames_eq _ _ ht, ?_⟩
    cases q : frzs n.s.length m.s es with
    | none => rw [q] at e2; cases e2
    | some d' =>
      refine ⟨d', rfl, u, hu, fun l hl => ?_⟩
      unfold sealE
      rw [e l hl]
      dsimp only
      rw [if_pos ht, q]
      rfl
  · cases e2
end
theorem frzs_data {c c' : Wc} {av av' : Addr → Prop} {H : Hp} {N : Nat} {s : List Dt} (k : ∀ v d d', Da c av H v d → frz N s d = some d' → Da c' av' H v d') : ∀ {vs : List V} {es es' : List (Str × Dt)}, DaAll c av H vs (es.map (·.2)) → frzs N s es = some es' → es'.map (·.1) = es.map (·.1) ∧ DaAll c' av' H vs (es'.map (·.2))
  | _, [], _, h, e => by cases h; cases e; exact ⟨rfl, .nil⟩
  | _, p :: ps, es', h, e => by
    have e : ((frz N s p.2).bind fun x => (frzs N s ps).map fun xs => (p.1, x) :: xs) = some es' := e
    obtain ⟨x, e1, e2⟩ := Option.bind_eq_some_iff.mp e
    obtain ⟨xs, e3, rfl⟩ := Option.map_eq_some_iff.mp e2
    cases h with
    | cons h1 h2 =>
      obtain ⟨q1, q2⟩ := frzs_data k h2 e3
      exact ⟨by rw [List.map_cons, List.map_cons, q1], .cons (k _ _ _ h1 e1) q2⟩
/-- a sealed def -/
theorem spE_seal {K : PySem.W.Frag} {mg : Str → Option Value} {T : List (Addr × Str)} {F : List Dt → Ev Dt} {vs : List V} {H : Hp} {Q : VK} {E : XK} (h : spE K mg T (fun ds => sealE (F ds)) vs H Q E) : spE K mg T F vs H Q E := by
  obtain ⟨c, n, ds, e, L, da, hns, hq, hx⟩ := h
  refine ⟨c, n, ds, e, L, da, hns.seal, fun m v H' d n' x L' h1 hit => ?_, fun cn C ad m H' fs es n' x L' h1 nx h2 h3 h4 hit => ?_⟩
  · obtain ⟨ht, d', hf, hit'⟩ := hit.seal hns
    obtain ⟨L2, x2, dd, w⟩ := L.seal x L' ht
    exact hq c.y.m v H' d' ⟨n'.n, n.s⟩ x2 L2 (dd v d d' h1 hf) hit'
  · obtain ⟨ht, es', hf, hit'⟩ := hit.sealX hns
    obtain ⟨L2, x2, dd, w⟩ := L.seal x L' ht
    obtain ⟨q1, q2⟩ := frzs_data dd h4 hf
    exact hx cn C ad c.y.m H' fs es' ⟨n'.n, n.s⟩ x2 L2 h1 (fun z => nx (w _ z)) h2 (h3.trans q1.symm) q2 hit'
end Pb
namespace Pb
open PySem PySem.Spec PyProof.Rows L2

/-! ### calls, attributes, methods, new objects -/
section
variable {c : Fc} {Γ : List Sl} {n : Cs} {k : Kd} {ta tb te : TE} {tl tk : TA} {N : Nd} {f : Str} {F : Nat → List Dt → Ev Dt}
/-- what is wanted of a call -/
def Cal1 (c : Fc) (E : XK) (g : Ev Dt) (n : Cs) (k : Kd) : Prop := c.er = none ∧ NS g n ∧ (∀ d m, Hit g n (.ok d) m → k d m) ∧ ∀ cn es m, Hit g n (.ex cn es) m → c.xk cn es m ∧ E = c.E
theorem call_go {G : List Dt → Ev Dt} {E : XK} {y : Ly} {ρ : Rt} {σ : L2.St} {H : Hp} {vs : List V} {ds : List Dt} {Q : VK} (S : SS (c.at_ y) ρ Γ n σ H) (da : DaAll (c.toWc.at_ y) (c.toWc.at_ y).av H vs ds) (h : Cal1 c E (G ds) n k)
    (hQ : ∀ m v H' d n', SS (c.at_ ⟨m, y.ap⟩) ρ Γ n' σ H' → Sx c.a y H ⟨m, y.ap⟩ H' → Da (c.toWc.at_ ⟨m, y.ap⟩) (c.toWc.at_ ⟨m, y.ap⟩).av H' v d → k d n' → Q v H') : spE c.K c.mg c.T G vs H Q E := by
  obtain ⟨her, h1, h2, h3⟩ := h
  refine ⟨c.toWc.at_ y, n, ds, ⟨rfl, rfl, rfl, her⟩, S.lay, da, h1, fun m v H' d n' x L' hd hit => ?_, fun cn C ad m H' fs es n' x L' g1 g2 g3 g4 g5 hit => ?_⟩
  · exact hQ m v H' d n' (S.go x L' fun _ z => z) x hd (h2 d n' hit)
  · obtain ⟨hx, rfl⟩ := h3 cn es n' hit
    have S2 : SS (c.at_ ⟨m, y.ap⟩) ρ Γ n' σ H' := S.go x L' fun _ z => z
    have o := S2.out
    exact S.ex cn C ad m H' fs es n' g1 o.sx o.lay (fun z => g2 (z.imp id fun z => z.imp id (S.aps ad))) g3 g4 (DaAll.drop' (c := c.toWc.at_ ⟨m, y.ap⟩) g5 S.aps) hx
theorem lookup_none {fs : List (Str × V)} {ns : List Str} (e : fs.map (·.1) = ns) (h : ns.contains f = false) : fs.lookup f = none := by
  subst e
  induction fs with
  | nil => rfl
  | cons p fs ih =>
    obtain ⟨g, v⟩ := p
    simp only [List.map_cons, List.contains_cons, Bool.or_eq_false_iff] at h
    simp only [List.lookup, h.1]
    exact ih h.2
/-- what is wanted of an attribute of the value d, an object with ns, ds -/
def AtD (c : Fc) (F : Nat → List Dt → Ev Dt) (f : Str) (kd : Atk) (d : Dt) (ns : List Str) (ds : List Dt) (m : Cs) (k : Kd) : Prop := match kd with
  | .fld => ∃ e, (ns.zip ds).lookup f = some e ∧ k e m
  | .int i => ns.contains f = false ∧ k (.int i) m
  | .str z => ns.contains f = false ∧ k (.str z) m
  | .prop id => Cal1 c E0 (F id [d]) m k
theorem w_at {cs : List (Str × Atk)} (h : We c Γ n ta fun d m => ∃ cn ns ds kd, dr m.s d = .obj cn ns ds ∧ c.mg cn = some (.ref (He.ga c.K cn)) ∧ (cn, kd) ∈ cs ∧ AtD c F f kd d ns ds m k) :
    We c Γ n (tAt c.K (fun id => spE c.K c.mg c.T (F id)) f cs ta) k := by
  intro y ρ σ H S Q hQ
  refine h y ρ σ H S _ fun m1 x H1 d1 n1 S1 x1 h1 k1 => ?_
  obtain ⟨cn, ns, ds, kd, e, hC, hm, k1⟩ := k1
  have v1 := S1.lay.dv h1
  rw [e] at v1
  obtain ⟨p, C, dx, fs, rfl, e2, e3, e4, e5⟩ := v1.isO
  have e2 : c.mg cn = some (.ref C) := e2
  rw [hC] at e2
  cases e2
  refine ⟨p, dx, fs, cn, kd, rfl, e3, hm, ?_⟩
  cases kd with
  | fld =>
    obtain ⟨e, l, k1⟩ := k1
    obtain ⟨v, hl, hv⟩ := lookup_data e4 e5 l
    exact ⟨v, hl, hQ m1 v H1 e n1 S1 x1 hv k1⟩
  | int i => exact ⟨lookup_none e4 k1.1, hQ m1 _ H1 _ n1 S1 x1 (.int i) k1.2⟩
  | str i => exact ⟨lookup_none e4 k1.1, hQ m1 _ H1 _ n1 S1 x1 (.str i) k1.2⟩
  | prop id =>
    exact call_go (y := ⟨m1, y.ap⟩) S1 (.cons h1 .nil) k1 fun m v H' d n' S' x hd kk => hQ m v H' d n' S' (stp2 x1 x S') hd kk
theorem w_me {cs : List (Str × Nat)} {E : XK} (h : We c Γ n ta fun d m => ∃ cn ns ds id, dr m.s d = .obj cn ns ds ∧ c.mg cn = some (.ref (He.ga c.K cn)) ∧ (cn, id) ∈ cs ∧ ns.contains f = false ∧
      Wa c Γ m tl fun es m => Cal1 c E (F id (d :: es)) m k) :
    We c Γ n (tMe c.K (fun id => spE c.K c.mg c.T (F id)) E f cs ta tl) k := by
  intro y ρ σ H S Q hQ
  refine h y ρ σ H S _ fun m1 x H1 d1 n1 S1 x1 h1 k1 => ?_
  obtain ⟨cn, ns, ds, id, e, hC, hm, hno, k1⟩ := k1
  have v1 := S1.lay.dv h1
  rw [e] at v1
  obtain ⟨p, C, dx, fs, rfl, e2, e3, e4, e5⟩ := v1.isO
  have e2 : c.mg cn = some (.ref C) := e2
  rw [hC] at e2
  cases e2
  refine ⟨p, dx, fs, cn, id, rfl, e3, hm, lookup_none e4 hno, ?_⟩
  refine k1 _ ρ σ H1 S1 _ fun m2 vs H2 es n2 S2 x2 h2 k2 => ?_
  exact call_go (y := ⟨m2, y.ap⟩) S2 (.cons (h1.sx x2) h2) k2 fun m v H' d n' S' x hd kk => hQ m v H' d n' S' (stp2 (stp2 x1 x2 S2) x S') hd kk
/-- super().m(..): self in slot i -/
theorem w_su {i : Nat} {cs : List (Str × Nat)} {E : XK} {d0 : Dt} {cn : Str} {ns : List Str} {ds : List Dt} {id : Nat} (hi : Γ[i]? = some (.da d0)) (e : dr n.s d0 = .obj cn ns ds) (hC : c.mg cn = some (.ref (He.ga c.K cn))) (hm : (cn, id) ∈ cs)
    (h : Wa c Γ n tl fun es m => Cal1 c E (F id (d0 :: es)) m k) :
    We c Γ n (tSu c.K (fun id => spE c.K c.mg c.T (F id)) E i cs tl) k := by
  intro y ρ σ H S Q hQ
  obtain ⟨v, hv, h1⟩ := S.dat i _ hi
  have v1 := S.lay.dv h1
  rw [e] at v1
  obtain ⟨p, C, dx, fs, rfl, e2, e3, e4, e5⟩ := v1.isO
  have e2 : c.mg cn = some (.ref C) := e2
  rw [hC] at e2
  cases e2
  refine ⟨p, dx, fs, cn, id, hv, e3, hm, ?_⟩
  refine h y ρ σ H S _ fun m2 vs H2 es n2 S2 x2 h2 k2 => ?_
  exact call_go (y := ⟨m2, y.ap⟩) S2 (.cons (h1.sx x2) h2) k2 fun m v H' d n' S' x hd kk => hQ m v H' d n' S' (stp2 x2 x S') hd kk
/-- C(..): a new cell, then __init__ -/
theorem w_mk {cn : Str} {id na nk : Nat} {ix : List Nat} {E : XK} (hC : c.mg cn = some (.ref (He.ga c.K cn)))
    (h : Wa c Γ n tl fun ds m => Wa c Γ m tk fun es m => (ds.length = na ∧ es.length = nk) ∧ Cal1 c E (F id (.rf m.s.length :: gPm ix ds es)) ⟨m.n, m.s ++ [.obj cn [] []]⟩ fun d m' => d = .non ∧ k (.rf m.s.length) m') :
    We c Γ n (tMk c.K (fun id => spE c.K c.mg c.T (F id)) E cn id na nk ix tl tk) k := by
  intro y ρ σ H S Q hQ
  refine h y ρ σ H S _ fun m0 vs H0 ds n0 S0 x0 h0 k0 => ?_
  refine k0 _ ρ σ H0 S0 _ fun m1 zs H1 es n1 S1 x1 h1 k1 => ?_
  obtain ⟨⟨l1, l2⟩, k1⟩ := k1
  have h0 : DaAll (c.toWc.at_ ⟨m1, y.ap⟩) (c.toWc.at_ ⟨m1, y.ap⟩).av H1 vs ds := DaAll.sx (c := c.toWc.at_ ⟨m0, y.ap⟩) h0 x1
  refine ⟨⟨h0.length.trans l1, h1.length.trans l2⟩, ?_⟩
  have h1 : DaAll (c.toWc.at_ ⟨m1, y.ap⟩) (c.toWc.at_ ⟨m1, y.ap⟩).av H1 (gPm ix vs zs) (gPm ix ds es) := h0.append (da_pick h1 ix)
  have x1 := stp2 x0 x1 S1
  intro x dx nx ndx nex
  have sm1 : Same H1 (upd H1 dx (.own x)) := same_new ndx
  have nx1 : (upd H1 dx (.own x)) x = none := by rw [upd_ne (Ne.symm nex)]; exact nx
  have S1b : SS (c.at_ ⟨m1, y.ap⟩) ρ Γ n1 σ (upd H1 dx (.own x)) := S1.same sm1
  have S2 : SS (c.at_ ⟨m1, x :: y.ap⟩) ρ Γ n1 σ (upd (upd H1 dx (.own x)) x (.ins (He.ga c.K cn) dx [])) := S1b.apart nx1 (.ins (He.ga c.K cn) dx [])
  have np := S1b.lay.new nx1
  have nap : x ∉ y.ap := fun z => np (.inr (.inr z))
  have nm1 : x ∉ m1 := fun z => np (.inr (.inl z))
  have sm : Same H1 (upd (upd H1 dx (.own x)) x (.ins (He.ga c.K cn) dx [])) := fun b u e => same_new nx1 b u (sm1 b u e)
  have L2 : Lay (c.toWc.at_ ⟨m1 ++ [x], y.ap⟩) ⟨n1.n, n1.s ++ [.obj cn [] []]⟩ (upd (upd H1 dx (.own x)) x (.ins (He.ga c.K cn) dx [])) := S2.lay.cell (p := x) (ap := y.ap) rfl nap ⟨_, upd_same, rfl, rfl, _, dx, [], hC, rfl, rfl, rfl⟩ .nil
  have xs : Sx c.a ⟨m1, y.ap⟩ H1 ⟨m1 ++ [x], y.ap⟩ (upd (upd H1 dx (.own x)) x (.ins (He.ga c.K cn) dx [])) := ⟨List.prefix_append _ _, fun _ h => .inl h, fun q z => (List.mem_append.mp z).elim .inl fun e => .inr (by rw [List.mem_singleton.mp e]; exact fr_none nx), fun b o _ _ e _ => sm b o e⟩
  have S3 : SS (c.at_ ⟨m1 ++ [x], y.ap⟩) ρ Γ ⟨n1.n, n1.s ++ [.obj cn [] []]⟩ σ (upd (upd H1 dx (.own x)) x (.ins (He.ga c.K cn) dx [])) := S1.go xs L2 fun _ z => z
  have hx : (m1 ++ [x])[n1.s.length]? = some x := by
    rw [show n1.s.length = m1.length from S1.lay.len]
    simp
  have da : DaAll (c.toWc.at_ ⟨m1 ++ [x], y.ap⟩) (c.toWc.at_ ⟨m1 ++ [x], y.ap⟩).av (upd (upd H1 dx (.own x)) x (.ins (He.ga c.K cn) dx [])) (.ref x :: gPm ix vs zs) (.rf n1.s.length :: gPm ix ds es) := .cons (.rf hx) (DaAll.sx (c := c.toWc.at_ ⟨m1, y.ap⟩) h1 xs)
  refine call_go (y := ⟨m1 ++ [x], y.ap⟩) S3 da k1 fun m v H' d n' S' x' hd kk => ?_
  obtain ⟨rfl, kk⟩ := kk
  cases hd
  exact ⟨rfl, hQ m _ H' _ n' S' (stp2 (stp2 x1 xs S3) x' S') (.rf (pre_get x'.m hx)) kk⟩
/-- isinstance(e, C) -/
theorem w_isq {b : Cq} (h : We c Γ n te fun d m => ∃ a r, (dr m.s d).cq = some a ∧ CqOk c.K c.mg a ∧ PySem.W.kitOne c.K (a.u c.K) (b.u c.K) = some r ∧ k (.bl r) m) : We c Γ n (tCB (rIsi c.K) (tCons te (tCons (tC (b.v c.K)) tNil))) k := by
  intro y ρ σ H S Q hQ
  refine h y ρ σ H S _ fun m1 x H1 d1 n1 S1 x1 h1 k1 => ?_
  obtain ⟨a, r, e, hC, kt, k1⟩ := k1
  exact ⟨x, b.v c.K, _, _, r, rfl, b.cv, (S1.lay.view h1).tyq e hC, kt, hQ m1 _ H1 _ n1 S1 x1 (.bl _) k1⟩
/-- isinstance(e, (C, ..)) -/
theorem w_isqT {bs : List Cq} (hz : szOk bs.length = true) (h : We c Γ n te fun d m => ∃ a r, (dr m.s d).cq = some a ∧ CqOk c.K c.mg a ∧ PySem.W.kitAny c.K (a.u c.K) (bs.map (Cq.u c.K)) = some r ∧ k (.bl r) m) : We c Γ n (tCB (rIsiT c.K) (tCons te (tCons (tTup (tQs c.K bs)) tNil))) k := by
  intro y ρ σ H S Q hQ
  refine h y ρ σ H S _ fun m1 x H1 d1 n1 S1 x1 h1 k1 => ?_
  obtain ⟨a, r, e, hC, kt, k1⟩ := k1
  refine tQs_run ⟨by rw [List.length_map]; exact szl hz, fun p hp => ?_⟩
  have sm := same_new (o := HO.tup (bs.map (Cq.v c.K))) hp
  exact ⟨x, p, bs.map (Cq.v c.K), _, bs.map (Cq.u c.K), r, rfl, upd_same, paired_q bs, ((S1.lay.view h1).keep (same_kp sm)).tyq e hC, kt, hQ m1 _ _ _ n1 (S1.same sm) (stp2 x1 (Sx.same sm) (S1.same sm)) (.bl _) k1⟩
/-! ### == by an own __eq__: operators that may call, by the values -/
def RG (c : Fc) (Γ : List Sl) (n : Cs) (r : R2) (d e : Dt) (k : Kd) : Prop := ∀ y ρ σ H, SS (c.at_ y) ρ Γ n σ H → ∀ x z, Da (c.toWc.at_ y) (c.toWc.at_ y).av H x d → Da (c.toWc.at_ y) (c.toWc.at_ y).av H z e → ∀ Q : VK,
  (∀ m v H' d n', SS (c.at_ ⟨m, y.ap⟩) ρ Γ n' σ H' → Sx c.a y H ⟨m, y.ap⟩ H' → Da (c.toWc.at_ ⟨m, y.ap⟩) (c.toWc.at_ ⟨m, y.ap⟩).av H' v d → k d n' → Q v H') → r x z H Q
theorem w_opG {r : R2} (h : We c Γ n ta fun d m => We c Γ m tb fun e m2 => RG c Γ m2 r d e k) : We c Γ n (tOp r ta tb) k := by
  intro y ρ σ H S Q hQ
  refine h y ρ σ H S _ fun m1 x H1 d1 n1 S1 x1 h1 k1 => ?_
  refine k1 ⟨m1, y.ap⟩ ρ σ H1 S1 _ fun m2 z H2 d2 n2 S2 x2 h2 k2 => ?_
  exact k2 ⟨m2, y.ap⟩ ρ σ H2 S2 x z (h1.sx x2) h2 Q fun m v H' d n' S' x' hd kk => hQ m v H' d n' S' (stp2 (stp2 x1 x2 S2) x' S') hd kk
theorem rg_of2 {r : R2} {d e : Dt} (h : R2V c n r d e fun d => k d n) : RG c Γ n r d e k := fun y ρ σ H S x z hx hz Q hQ =>
  h y H x z S.lay hx hz Q fun w H' d sm hd kk => hQ y.m w H' d n (S.same sm) (Sx.same sm) hd kk
theorem RG.inl {r r' : R2} {d e : Dt} (h : RG c Γ n r d e k) : RG c Γ n (fun x y H Q => r x y H Q ∨ r' x y H Q) d e k := fun y ρ σ H S x z hx hz Q hQ => .inl (h y ρ σ H S x z hx hz Q hQ)
theorem RG.inr {r r' : R2} {d e : Dt} (h : RG c Γ n r' d e k) : RG c Γ n (fun x y H Q => r x y H Q ∨ r' x y H Q) d e k := fun y ρ σ H S x z hx hz Q hQ => .inr (h y ρ σ H S x z hx hz Q hQ)
theorem rg_eqO {cs : List (Str × Nat)} {ne : Bool} {d e : Dt} {cn : Str} {ns : List Str} {ds : List Dt} (ed : dr n.s d = .obj cn ns ds) (hC : c.mg cn = some (.ref (He.ga c.K cn)))
    (h : (∃ id q, (cn, id) ∈ cs ∧ (dr n.s e).cq = some q ∧ CqOk c.K c.mg q ∧ PySem.W.notFirst c.K (He.ga c.K cn) (q.u c.K) = true ∧ Cal1 c E0 (F id [d, e]) n fun v m => ∃ r, v = .bl r ∧ k (.bl (Bool.xor ne r)) m) ∨
      (∃ cn' ns' ds' id, dr n.s e = .obj cn' ns' ds' ∧ c.mg cn' = some (.ref (He.ga c.K cn')) ∧ (cn', id) ∈ cs ∧ ((Value.ref (He.ga c.K cn)) != .ref (He.ga c.K cn')) = true ∧ PySem.W.subIn c.K (.ref (He.ga c.K cn')) (.ref (He.ga c.K cn)) = some true ∧ Cal1 c E0 (F id [e, d]) n fun v m => ∃ r, v = .bl r ∧ k (.bl (Bool.xor ne r)) m)) :
    RG c Γ n (rEqO c.K (fun id => spE c.K c.mg c.T (F id)) ne cs) d e k := by
  intro y ρ σ H S x z hx hz Q hQ
  have v1 := S.lay.dv hx
  rw [ed] at v1
  obtain ⟨p, C, dx, fs, rfl, e2, e3, e4, e5⟩ := v1.isO
  have e2 : c.mg cn = some (.ref C) := e2
  rw [hC] at e2
  cases e2
  have go : ∀ {G : List Dt → Ev Dt} {vs : List V} {es : List Dt}, DaAll (c.toWc.at_ y) (c.toWc.at_ y).av H vs es → Cal1 c E0 (G es) n (fun v m => ∃ r, v = .bl r ∧ k (.bl (Bool.xor ne r)) m) → spE c.K c.mg c.T G vs H (fun v H' => ∃ r, v = .bl r ∧ Q (.bl (Bool.xor ne r)) H') E0 := fun {G vs es} da q =>
    call_go S da q fun m v H' d n' S' x' hd kk => by
      obtain ⟨r, rfl, kk⟩ := kk
      cases hd
      exact ⟨r, rfl, hQ m _ H' _ n' S' x' (.bl _) kk⟩
  refine ⟨p, dx, fs, cn, rfl, e3, ?_⟩
  rcases h with ⟨id, q, hm, hq, hok, hn, k2⟩ | ⟨cn', ns', ds', id, ee, hC', hm, hne, hsub, k2⟩
  · exact .inl ⟨id, _, hm, (S.lay.view hz).tyq hq hok, hn, go (.cons hx (.cons hz .nil)) k2⟩
  · have v2 := S.lay.dv hz
    rw [ee] at v2
    obtain ⟨p', C', dx', fs', rfl, g2, g3, g4, g5⟩ := v2.isO
    have g2 : c.mg cn' = some (.ref C') := g2
    rw [hC'] at g2
    cases g2
    exact .inr ⟨p', dx', fs', cn', id, rfl, g3, hm, hne, hsub, go (.cons hz (.cons hx .nil)) k2⟩
end
/-! ### cells that change -/
def putN (f : Str) : List Str → List Str
  | [] => [f]
  | g :: r => if g = f then g :: r else g :: putN f r
def putD (f : Str) (d : Dt) : List Str → List Dt → List Dt
  | g :: r, e :: ds => if g = f then d :: ds else e :: putD f d r ds
  | _, _ => [d]
section
variable {c : Fc} {Γ : List Sl} {n : Cs} {k : Kd} {ta tb te : TE} {tl : TA} {N : Nd} {f : Str}
theorem putF_data {c : Wc} {av : Addr → Prop} {H : Hp} {v : V} {d : Dt} (hv : Da c av H v d) : ∀ {fs : List (Str × V)} {ns : List Str} {ds : List Dt}, fs.map (·.1) = ns → DaAll c av H (fs.map (·.2)) ds → (putF f v fs).map (·.1) = putN f ns ∧ DaAll c av H ((putF f v fs).map (·.2)) (putD f d ns ds)
  | [], _, _, e, h => by
    cases e
    cases h
    exact ⟨rfl, .cons hv .nil⟩
  | (g, x) :: fs, _, _, e, h => by
    cases e
    cases h with
    | cons h1 h2 =>
      obtain ⟨q1, q2⟩ := putF_data hv (fs := fs) rfl h2
      simp only [putF, List.map_cons, putN, putD]
      split
      · exact ⟨rfl, .cons hv h2⟩
      · refine ⟨?_, ?_⟩
        · rw [List.map_cons, q1]
        · rw [List.map_cons]
          exact .cons h1 q2
/-- a cell's store, as a step -/
theorem SS.store {y : Ly} {ρ : Rt} {σ : L2.St} {H : Hp} (S : SS (c.at_ y) ρ Γ n σ H) {i : Nat} {d0 d : Dt} {p : Addr} (hi : n.s[i]? = some d0) (hp : y.m[i]? = some p) {u : HO} {vs : List V} (h1 : isT u = false) (h2 : isC u = false) (h3 : OwO c.toWc u vs d) (h4 : DaAll (c.toWc.at_ y) (c.toWc.at_ y).av H vs d.kids) :
    SS (c.at_ y) ρ Γ ⟨n.n, n.s.set i d⟩ σ (upd H p u) ∧ Sx c.a y H y (upd H p u) := by
  have L := S.lay.set (i := i) (d := d) hi hp h1 h2 h3 h4
  have x := sx_set (c := c.toWc.at_ y) (H := H) hp u
  exact ⟨S.go x L fun _ z => z, x⟩
/-- a.f = e, a a cell -/
theorem w_setF {ta : TE} (h : We c Γ n te fun d m => We c Γ m ta fun a m2 => ∃ i cn ns ds, a = .rf i ∧ m2.s[i]? = some (.obj cn ns ds) ∧ c.mg cn = some (.ref (He.ga c.K cn)) ∧ Cls c.K (He.ga c.K cn) ∧ NoAttr c.K (He.ga c.K cn) f ∧ ns.length < 1000 ∧ N.nx Γ ⟨m2.n, m2.s.set i (.obj cn (putN f ns) (putD f d ns ds))⟩) : Ws c Γ n (sFld c.K ta te f) N := by
  intro y ρ σ H S D L
  refine h y ρ σ H S _ fun m1 v H1 d n1 S1 x1 h1 k1 => ?_
  refine k1 ⟨m1, y.ap⟩ ρ σ H1 S1 _ fun m2 w H2 a n2 S2 x2 h2 k2 => ?_
  obtain ⟨i, cn, ns, ds, rfl, hi, hC, hc, hn, hl, k2⟩ := k2
  cases h2 with
  | @rf _ p hp =>
    have hp : m2[i]? = some p := hp
    obtain ⟨vs, ⟨o, g1, g2, g3, C, dx, fs, e2, rfl, e4, e5⟩, da⟩ := S2.lay.cel i _ p hi hp
    have e2 : c.mg cn = some (.ref C) := e2
    rw [hC] at e2
    cases e2
    have da : DaAll (c.toWc.at_ ⟨m2, y.ap⟩) (c.toWc.at_ ⟨m2, y.ap⟩).av H2 (fs.map (·.2)) ds := by rw [e5]; exact da
    obtain ⟨q1, q2⟩ := putF_data (f := f) (h1.sx x2) e4 da
    refine ⟨p, _, dx, fs, rfl, g1, hc, hn, ?_, ?_⟩
    · rw [← List.length_map (as := fs) (·.1), e4]; exact hl
    · obtain ⟨S3, x3⟩ := S2.store (d := .obj cn (putN f ns) (putD f d ns ds)) (u := .ins (He.ga c.K cn) dx (putF f v fs)) hi hp rfl rfl ⟨_, dx, _, hC, rfl, q1, rfl⟩ q2
      exact L.nx _ Γ _ σ _ S3 k2
/-- a.f op= e -/
theorem w_augF {rd : V → V → Hp → VK → Prop} (h : We c Γ n ta fun a m => ∃ i cn ns ds d0, a = .rf i ∧ m.s[i]? = some (.obj cn ns ds) ∧ c.mg cn = some (.ref (He.ga c.K cn)) ∧ Cls c.K (He.ga c.K cn) ∧ NoAttr c.K (He.ga c.K cn) f ∧ (ns.zip ds).lookup f = some d0 ∧
      We c Γ m te fun e m2 => R2V c m2 rd d0 e fun z => ∃ ns' ds', m2.s[i]? = some (.obj cn ns' ds') ∧ ns'.length < 1000 ∧ N.nx Γ ⟨m2.n, m2.s.set i (.obj cn (putN f ns') (putD f z ns' ds'))⟩) : Ws c Γ n (sFldAug c.K ta te rd f) N := by
  intro y ρ σ H S D L
  refine h y ρ σ H S _ fun m1 w H1 a n1 S1 x1 h1 k1 => ?_
  obtain ⟨i, cn, ns, ds, d0, rfl, hi, hC, hc, hn, hl, k1⟩ := k1
  cases h1 with
  | @rf _ p hp =>
    have hp : m1[i]? = some p := hp
    obtain ⟨vs, ⟨o, g1, g2, g3, C, dx, fs, e2, rfl, e4, e5⟩, da⟩ := S1.lay.cel i _ p hi hp
    have e2 : c.mg cn = some (.ref C) := e2
    rw [hC] at e2
    cases e2
    have da : DaAll (c.toWc.at_ ⟨m1, y.ap⟩) (c.toWc.at_ ⟨m1, y.ap⟩).av H1 (fs.map (·.2)) ds := by rw [e5]; exact da
    obtain ⟨v0, hv0, hd0⟩ := lookup_data e4 da hl
    refine ⟨p, _, dx, fs, v0, rfl, g1, hc, hn, hv0, ?_⟩
    refine k1 ⟨m1, y.ap⟩ ρ σ H1 S1 _ fun m2 v H2 e n2 S2 x2 h2 k2 => ?_
    refine k2 ⟨m2, y.ap⟩ H2 v0 v S2.lay (hd0.sx x2) h2 _ fun z H3 d sm h3 k3 => ?_
    obtain ⟨ns', ds', hi', hl', k3⟩ := k3
    have hp' : m2[i]? = some p := pre_get x2.m hp
    have S3 := S2.same sm
    obtain ⟨vs', ⟨o', g1', g2', g3', C', dx', fs', e2', rfl, e4', e5'⟩, da'⟩ := S3.lay.cel i _ p hi' hp'
    have e2' : c.mg cn = some (.ref C') := e2'
    rw [hC] at e2'
    cases e2'
    have da' : DaAll (c.toWc.at_ ⟨m2, y.ap⟩) (c.toWc.at_ ⟨m2, y.ap⟩).av H3 (fs'.map (·.2)) ds' := by rw [e5']; exact da'
    obtain ⟨q1, q2⟩ := putF_data (f := f) h3 e4' da'
    refine ⟨dx', fs', g1', ?_, ?_⟩
    · rw [← List.length_map (as := fs') (·.1), e4']; exact hl'
    · obtain ⟨S4, x4⟩ := S3.store (d := .obj cn (putN f ns') (putD f d ns' ds')) (u := .ins (He.ga c.K cn) dx' (putF f z fs')) hi' hp' rfl rfl ⟨_, dx', _, hC, rfl, q1, rfl⟩ q2
      exact L.nx _ Γ _ σ _ S4 k3
/-! methods of lists that are cells -/
/-- an operation on the cell i with the values es: what it gives, what the cell becomes -/
def ROV (c : Fc) (n : Cs) (r : V → List V → Hp → VK → Prop) (i : Nat) (es : List Dt) (k : Kd) : Prop := ∀ y H p vs, Lay (c.toWc.at_ y) n H → y.m[i]? = some p → DaAll (c.toWc.at_ y) (c.toWc.at_ y).av H vs es → ∀ Q : VK,
  (∀ z u ws d0 d d', n.s[i]? = some d0 → isT u = false → isC u = false → OwO c.toWc u ws d → DaAll (c.toWc.at_ y) (c.toWc.at_ y).av H ws d.kids → Da (c.toWc.at_ y) (c.toWc.at_ y).av H z d' → k d' ⟨n.n, n.s.set i d⟩ → Q z (upd H p u)) → r (.ref p) vs H Q
theorem w_bmC {T : String} {r : V → List V → Hp → VK → Prop} (hT : T = "list") (h : We c Γ n ta fun a m => ∃ i ds, a = .rf i ∧ m.s[i]? = some (.lst ds) ∧ Wa c Γ m tl fun es m2 => ROV c m2 r i es k) : We c Γ n (tBM c.K T r ta tl) k := by
  subst hT
  intro y ρ σ H S Q hQ
  refine h y ρ σ H S _ fun m1 w H1 a n1 S1 x1 h1 k1 => ?_
  obtain ⟨i, ds, rfl, hi, k1⟩ := k1
  cases h1 with
  | @rf _ p hp =>
    have hp : m1[i]? = some p := hp
    obtain ⟨vs, ow, da⟩ := S1.lay.cel i _ p hi hp
    refine ⟨.inl ⟨rfl, vs, SqL.of ow.isL⟩, ?_⟩
    refine k1 ⟨m1, y.ap⟩ ρ σ H1 S1 _ fun m2 vs2 H2 es n2 S2 x2 h2 k2 => ?_
    have hp2 : m2[i]? = some p := pre_get x2.m hp
    refine k2 ⟨m2, y.ap⟩ H2 p vs2 S2.lay hp2 h2 Q fun z u ws d0 d d' g0 g1 g2 g3 g4 g5 kk => ?_
    obtain ⟨S3, x3⟩ := S2.store (d := d) g0 hp2 g1 g2 g3 g4
    exact hQ m2 z _ d' _ S3 (stp2 (stp2 x1 x2 S2) x3 S3) (g5.sx x3) kk
theorem w_bmC0 {T : String} {r : V → List V → Hp → VK → Prop} (hT : T = "list") (h : We c Γ n ta fun a m => ∃ i ds, a = .rf i ∧ m.s[i]? = some (.lst ds) ∧ ROV c m r i [] k) : We c Γ n (tBM0 c.K T r ta) k := by
  subst hT
  intro y ρ σ H S Q hQ
  refine h y ρ σ H S _ fun m1 w H1 a n1 S1 x1 h1 k1 => ?_
  obtain ⟨i, ds, rfl, hi, k1⟩ := k1
  cases h1 with
  | @rf _ p hp =>
    have hp : m1[i]? = some p := hp
    obtain ⟨vs, ow, da⟩ := S1.lay.cel i _ p hi hp
    refine ⟨.inl ⟨rfl, vs, SqL.of ow.isL⟩, ?_⟩
    refine k1 ⟨m1, y.ap⟩ H1 p [] S1.lay hp .nil Q fun z u ws d0 d d' g0 g1 g2 g3 g4 g5 kk => ?_
    obtain ⟨S3, x3⟩ := S1.store (d := d) g0 hp g1 g2 g3 g4
    exact hQ m1 z _ d' _ S3 (stp2 x1 x3 S3) (g5.sx x3) kk
variable {i : Nat} {ds : List Dt}
theorem o_append {d : Dt} (hi : n.s[i]? = some (.lst ds)) (hz : szLt ds.length = true) (h : k .non ⟨n.n, n.s.set i (.lst (ds ++ [d]))⟩) : ROV c n rAppend i [d] k := by
  intro y H p vs L hp da Q q
  obtain ⟨ws, ow, dw⟩ := L.cel i _ p hi hp
  have dw : DaAll (c.toWc.at_ y) (c.toWc.at_ y).av H ws ds := dw
  cases da with
  | cons h1 h2 =>
    cases h2
    exact ⟨p, ws, _, rfl, rfl, ow.isL, by rw [dw.length]; exact szlt hz, q _ _ _ _ (.lst (ds ++ [d])) _ hi rfl rfl rfl (dw.append (.cons h1 .nil)) .non h⟩
theorem DaAll.dropLast {c : Wc} {av : Addr → Prop} {H : Hp} {vs : List V} {ds : List Dt} (h : DaAll c av H vs ds) : DaAll c av H vs.dropLast ds.dropLast := by
  rw [List.dropLast_eq_take, List.dropLast_eq_take, h.length]
  exact h.take _
theorem o_pop {d : Dt} (hi : n.s[i]? = some (.lst ds)) (hd : ds[ds.length - 1]? = some d) (h : k d ⟨n.n, n.s.set i (.lst ds.dropLast)⟩) : ROV c n rPop i [] k := by
  intro y H p vs L hp da Q q
  obtain ⟨ws, ow, dw⟩ := L.cel i _ p hi hp
  have dw : DaAll (c.toWc.at_ y) (c.toWc.at_ y).av H ws ds := dw
  cases da
  obtain ⟨v, h1, h2⟩ := dw.get hd
  exact ⟨p, ws, v, rfl, rfl, ow.isL, by rw [dw.length]; exact h1, q _ _ _ _ (.lst ds.dropLast) _ hi rfl rfl rfl dw.dropLast h2 h⟩
theorem DaAll.eraseIdx {c : Wc} {av : Addr → Prop} {H : Hp} : ∀ (i : Nat) {vs : List V} {ds : List Dt}, DaAll c av H vs ds → DaAll c av H (vs.eraseIdx i) (ds.eraseIdx i)
  | _, _, _, .nil => .nil
  | 0, _, _, .cons _ t => t
  | i + 1, _, _, .cons h t => .cons h (DaAll.eraseIdx i t)
theorem o_popAt {j : Int} {kx : Nat} {d : Dt} (hi : n.s[i]? = some (.lst ds)) (h1 : -(2 ^ 63) ≤ j) (h2 : j < 2 ^ 63) (hk : seqIndex? j ds.length = some kx) (hd : ds[kx]? = some d) (h : k d ⟨n.n, n.s.set i (.lst (ds.eraseIdx kx))⟩) : ROV c n rPopAt i [.int j] k := by
  intro y H p vs L hp da Q q
  obtain ⟨ws, ow, dw⟩ := L.cel i _ p hi hp
  have dw : DaAll (c.toWc.at_ y) (c.toWc.at_ y).av H ws ds := dw
  cases da with
  | cons g1 g2 =>
    cases g2; cases g1
    obtain ⟨v, q1, q2⟩ := dw.get hd
    exact ⟨p, ws, j, kx, v, rfl, rfl, ow.isL, h1, h2, by rw [dw.length]; exact hk, q1, q _ _ _ _ (.lst (ds.eraseIdx kx)) _ hi rfl rfl rfl (dw.eraseIdx kx) q2 h⟩
theorem o_extend {e : Dt} {es : List Dt} (hi : n.s[i]? = some (.lst ds)) (he : dr n.s e = .lst es) (hz : szOk (ds.length + es.length) = true) (h : k .non ⟨n.n, n.s.set i (.lst (ds ++ es))⟩) : ROV c n rExtend i [e] k := by
  intro y H p vs L hp da Q q
  obtain ⟨ws, ow, dw⟩ := L.cel i _ p hi hp
  have dw : DaAll (c.toWc.at_ y) (c.toWc.at_ y).av H ws ds := dw
  cases da with
  | cons h1 h2 =>
    cases h2
    have v1 := L.dv h1
    rw [he] at v1
    obtain ⟨p2, vs2, rfl, h3, h4⟩ := v1.isL
    exact ⟨p, p2, ws, vs2, rfl, rfl, ow.isL, h3, by rw [dw.length, h4.length]; exact szl hz, q _ _ _ _ (.lst (ds ++ es)) _ hi rfl rfl rfl (dw.append h4) .non h⟩
theorem o_clear (hi : n.s[i]? = some (.lst ds)) (h : k .non ⟨n.n, n.s.set i (.lst [])⟩) : ROV c n rClear i [] k := by
  intro y H p vs L hp da Q q
  obtain ⟨ws, ow, dw⟩ := L.cel i _ p hi hp
  cases da
  exact ⟨p, ws, rfl, rfl, ow.isL, q _ _ _ _ (.lst []) _ hi rfl rfl rfl .nil .non h⟩
abbrev rInsert : V → List V → Hp → VK → Prop := fun x vs H Q => ∃ (l : Addr) (xs : List V) (i : Int) (y : V), x = .ref l ∧ vs = [.int i, y] ∧ H l = some (.lst xs) ∧ xs.length < sizeLine ∧ 0 ≤ i ∧ i < 2 ^ 63 ∧
    Q .non (upd H l (.lst (xs.take i.toNat ++ [y] ++ xs.drop i.toNat)))
theorem o_insert {j : Int} {d : Dt} (hi : n.s[i]? = some (.lst ds)) (hz : szLt ds.length = true) (h0 : 0 ≤ j) (h1 : j < 2 ^ 63) (h : k .non ⟨n.n, n.s.set i (.lst (ds.take j.toNat ++ [d] ++ ds.drop j.toNat))⟩) : ROV c n rInsert i [.int j, d] k := by
  intro y H p vs L hp da Q q
  obtain ⟨ws, ow, dw⟩ := L.cel i _ p hi hp
  have dw : DaAll (c.toWc.at_ y) (c.toWc.at_ y).av H ws ds := dw
  cases da with
  | cons g1 g2 =>
    cases g2 with
    | cons g2 g3 =>
      cases g3; cases g1
      exact ⟨p, ws, j, _, rfl, rfl, ow.isL, by rw [dw.length]; exact szlt hz, h0, h1, q _ _ _ _ (.lst (ds.take j.toNat ++ [d] ++ ds.drop j.toNat)) _ hi rfl rfl rfl (((dw.take _).append (.cons g2 .nil)).append (dw.drop _)) .non h⟩
/-! a[i] = e -/
/-- lists and dicts -/
def rSetX : V → V → V → Hp → (Hp → Prop) → Prop := fun o i v H Q => rSetL o i v H Q ∨ rSetD o i v H Q
theorem set_any {X : Cx} (hu : X.A.units + 1 < cLine) : PSet X rSetX := by
  intro pins s σ H o i v ov iv u Q I ro ri rv h
  rcases h with h | h
  · exact set_list pins s σ H o i v ov iv u Q I ro ri rv h
  · exact set_dict hu pins s σ H o i v ov iv u Q I ro ri rv h
end
end Pb
namespace Pb
open PySem PySem.Spec PyProof.Rows L2

/-! ### dicts: rules by values -/
def rIxD : R2 := fun x y H Q => ∃ a v, x = .ref a ∧ DGet H a y (some v) ∧ Q v H
theorem ix_dict {X : Cx} (hu : X.A.units + 1 < cLine) : IxR X rIxD := by
  intro value slice pins s σ H x y v u Q I rx ry h hs
  obtain ⟨a, w, rfl, g, q⟩ := h
  cases (show v = Value.ref a from rx)
  have hT := dict_typeIs I g
  unfold subscriptTail
  refine wpAny_bind ?_
  rw [getitemInPython_of_ne hT.not_modules]
  refine wpAny_bind (wpAny_specialOf hT PySem.F.slot_dict_getitem.lookup ?_)
  have h2 : wpAny (model X.prog X.w) X.A (getItem (.ref a) u) (EP X pins σ Q) X.xe s := d_getItem hu I g ry fun w' s3 I3 rw' => ⟨w, H, I3, rw', q⟩
  have fin : wpAny (model X.prog X.w) X.A (subscripted slice false (.ref a) u) (fun r s₃ => wpAny (model X.prog X.w) X.A (letTemporaryGo value (.ref a) r >>= fun _ => pure r) (EP X pins σ Q) X.xe s₃) X.xe s := by
    rw [hs]
    exact wpAny_operating (wpAny_mono h2 (fun r s₃ h₃ => wpAny_bind (wpAny_letTemporaryGo (wpAny_pure h₃))) fun _ _ x => x)
  first
    | exact wpAny_pure (wpAny_bind fin)
    | exact wpAny_bind (wpAny_pure (wpAny_bind fin))
    | exact wpAny_bind fin
/-- a[i] of lists, tuples, texts, dicts -/
def rIxX (K : PySem.W.Frag) : R2 := fun x y H Q => rIx K x y H Q ∨ rIxD x y H Q
theorem ix_any {X : Cx} (hu : X.A.units + 1 < cLine) : IxR X (rIxX X.K) := ix_seq.or (ix_dict hu)
def rInD (neg : Bool) : R2 := fun y x H Q => ∃ a o, x = .ref a ∧ DGet H a y o ∧ Q (.bl (Bool.xor neg o.isSome)) H
theorem o_inD {X : Cx} (hu : X.A.units + 1 < cLine) : OpR X (compareOp .In) (rInD false) := by
  intro pins s σ H y x u v Q I ry rx h
  obtain ⟨a, o, rfl, g, q⟩ := h
  cases (show v = Value.ref a from rx)
  refine d_in hu I g ry fun s3 I3 => ⟨.bl o.isSome, H, I3, rfl, ?_⟩
  simpa using q
theorem o_notInD {X : Cx} (hu : X.A.units + 1 < cLine) : OpR X (compareOp .NotIn) (rInD true) := by
  intro pins s σ H y x u v Q I ry rx h
  obtain ⟨a, o, rfl, g, q⟩ := h
  cases (show v = Value.ref a from rx)
  refine d_notIn hu I g ry fun s3 I3 => ⟨.bl (!o.isSome), H, I3, rfl, ?_⟩
  simpa using q
def rInY (K : PySem.W.Frag) (neg : Bool) : R2 := fun x y H Q => rInX K neg x y H Q ∨ rInD neg x y H Q
theorem o_inY {X : Cx} (hu : X.A.units + 1 < cLine) : OpR X (compareOp .In) (rInY X.K false) := OpR.or o_in (o_inD hu)
theorem o_notInY {X : Cx} (hu : X.A.units + 1 < cLine) : OpR X (compareOp .NotIn) (rInY X.K true) := OpR.or o_notIn (o_notInD hu)
/-! ### dicts as data -/
def getK (key : Key) : List Key → List Dt → Option Dt
  | k :: ks, d :: ds => if k = key then some d else getK key ks ds
  | _, _ => none
theorem getK_data {c : Wc} {av : Addr → Prop} {H : Hp} {key : Key} : ∀ {kvs : List (Key × V)} {ks : List Key} {ds : List Dt}, kvs.map (·.1) = ks → DaAll c av H (kvs.map (·.2)) ds →
    (valV kvs key = none ∧ getK key ks ds = none) ∨ ∃ v d, valV kvs key = some v ∧ getK key ks ds = some d ∧ Da c av H v d
  | [], _, _, e, h => by
    cases e
    cases h
    exact .inl ⟨rfl, rfl⟩
  | (g, x) :: kvs, _, _, e, h => by
    cases e
    cases h with
    | cons h1 h2 =>
      by_cases hg : g = key
      · exact .inr ⟨x, _, valV_pos hg, by simp [getK, hg], h1⟩
      · rcases getK_data (kvs := kvs) (key := key) rfl h2 with ⟨a, b⟩ | ⟨v, d, a, b, q⟩
        · exact .inl ⟨by rw [valV_neg hg]; exact a, by simp [getK, hg, b]⟩
        · exact .inr ⟨v, d, by rw [valV_neg hg]; exact a, by simp [getK, hg, b], q⟩
/-- a dict's pairs behind a store -/
def hasK (key : Key) (ks : List Key) : Bool := ks.any fun k => decide (k = key)
def putKs (key : Key) (ks : List Key) : List Key := if hasK key ks = true then ks else ks ++ [key]
def putKd (key : Key) (e : Dt) (ks : List Key) (ds : List Dt) : List Dt := if hasK key ks = true then List.zipWith (fun k d => if k = key then e else d) ks ds else ds ++ [e]
theorem putK_data {c : Wc} {av : Addr → Prop} {H : Hp} {v : V} {e : Dt} {key : Key} (hv : Da c av H v e) {kvs : List (Key × V)} {ks : List Key} {ds : List Dt} (e1 : kvs.map (·.1) = ks) (h : DaAll c av H (kvs.map (·.2)) ds) :
    (putK kvs key v).map (·.1) = putKs key ks ∧ DaAll c av H ((putK kvs key v).map (·.2)) (putKd key e ks ds) := by
  have mem : (kvs.any fun kv => decide (kv.1 = key)) = hasK key ks := by
    unfold hasK
    rw [← e1, List.any_map]
    rfl
  unfold putK putKs putKd
  by_cases hk : hasK key ks = true
  · rw [if_pos (mem.trans hk), if_pos hk, if_pos hk]
    clear mem hk
    subst e1
    induction kvs generalizing ds with
    | nil => cases h; exact ⟨rfl, .nil⟩
    | cons p kvs ih =>
      obtain ⟨g, x⟩ := p
      cases h with
      | cons h1 h2 =>
        obtain ⟨a, b⟩ := ih h2
        simp only [List.map_cons, List.zipWith_cons_cons]
        by_cases hg : g = key
        · rw [if_pos hg, if_pos hg]
          exact ⟨by rw [a], .cons hv b⟩
        · rw [if_neg hg, if_neg hg]
          exact ⟨by rw [a], .cons h1 b⟩
  · rw [if_neg (fun z => hk (mem.symm.trans z)), if_neg hk, if_neg hk]
    exact ⟨by rw [List.map_append, e1]; rfl, by rw [List.map_append]; exact h.append (.cons hv .nil)⟩
section
variable {c : Fc} {Γ : List Sl} {n : Cs} {k : Kd} {kd : Dt → Prop} {ta tb te tx : TE} {tl : TA} {N : Nd} {f : Str} {d1 d2 : Dt} {ks : List Key} {ds : List Dt} {key : Key}
theorem key_val {c : Wc} {av : Addr → Prop} {H : Hp} {v : V} (h : Da c av H v d2) (e : keyD d2 = some key) : v = kV key := by
  cases h <;> cases e <;> rfl
theorem v_ixD {d : Dt} (e1 : dr n.s d1 = .dic ks ds) (e2 : keyD d2 = some key) (e : getK key ks ds = some d) (h : kd d) : R2V c n rIxD d1 d2 kd := by
  intro y H a b L h1 h2 Q q
  have v1 := L.dv h1
  rw [e1] at v1
  obtain ⟨p, kvs, rfl, h3, h4, h5⟩ := v1.isD
  have eb := key_val h2 e2
  subst eb
  rcases getK_data (key := key) h4 h5 with ⟨_, z⟩ | ⟨v, d', g1, g2, g3⟩
  · rw [e] at z; cases z
  · rw [e] at g2
    cases g2
    exact ⟨p, v, rfl, g1 ▸ DGet.k h3, q _ H _ (Same.refl H) g3 h⟩
theorem v_inD {neg : Bool} (e1 : keyD d1 = some key) (e2 : dr n.s d2 = .dic ks ds) (h : kd (.bl (Bool.xor neg (getK key ks ds).isSome))) : R2V c n (rInD neg) d1 d2 kd := by
  intro y H a b L h1 h2 Q q
  have v2 := L.dv h2
  rw [e2] at v2
  obtain ⟨p, kvs, rfl, h3, h4, h5⟩ := v2.isD
  have ea := key_val h1 e1
  subst ea
  refine ⟨p, valV kvs key, rfl, DGet.k h3, q _ H _ (Same.refl H) ?_ h⟩
  rcases getK_data (key := key) h4 h5 with ⟨z1, z2⟩ | ⟨v, d', g1, g2, g3⟩
  · rw [z1, z2]; exact .bl _
  · rw [g1, g2]; exact .bl _
theorem isD_of {c : Wc} {av : Addr → Prop} {H : Hp} {v : V} (h : Dv c av H v (.dic ks ds)) : ∃ p, v = .ref p ∧ IsD H p := by
  obtain ⟨p, kvs, rfl, h3, _⟩ := h.isD
  exact ⟨p, rfl, .inl ⟨_, .inl h3⟩⟩
/-- d.get(k), d.get(k, x) -/
theorem w_get1 (h : We c Γ n ta fun d m => (∃ ks ds, dr m.s d = .dic ks ds) ∧ We c Γ m tb fun e m2 => ∃ ks ds key, dr m2.s d = .dic ks ds ∧ keyD e = some key ∧ k ((getK key ks ds).getD .non) m2) : We c Γ n (tDGet1 ta tb) k := by
  intro y ρ σ H S Q hQ
  refine h y ρ σ H S _ fun m1 x H1 d1 n1 S1 x1 h1 k1 => ?_
  obtain ⟨⟨ks0, ds0, e0⟩, k1⟩ := k1
  have v0 := S1.lay.dv h1
  rw [e0] at v0
  obtain ⟨p, rfl, hd⟩ := isD_of v0
  refine ⟨p, rfl, hd, ?_⟩
  refine k1 _ ρ σ H1 S1 _ fun m2 z H2 e n2 S2 x2 h2 k2 => ?_
  obtain ⟨ks, ds, key, e1, e2, k2⟩ := k2
  have hz := key_val h2 e2
  subst hz
  have v1 := S2.lay.dv (h1.sx x2)
  rw [e1] at v1
  obtain ⟨p', kvs, ep, h3, h4, h5⟩ := v1.isD
  cases ep
  refine ⟨valV kvs key, DGet.k h3, ?_⟩
  rcases getK_data (key := key) h4 h5 with ⟨z1, z2⟩ | ⟨v, d', g1, g2, g3⟩
  · rw [z2] at k2
    rw [z1]
    exact hQ m2 _ H2 _ n2 S2 (stp2 x1 x2 S2) .non k2
  · rw [g2] at k2
    rw [g1]
    exact hQ m2 _ H2 _ n2 S2 (stp2 x1 x2 S2) g3 k2
theorem w_get2 (h : We c Γ n ta fun d m => (∃ ks ds, dr m.s d = .dic ks ds) ∧ We c Γ m tb fun e m2 => We c Γ m2 tx fun x m3 => ∃ ks ds key, dr m3.s d = .dic ks ds ∧ keyD e = some key ∧ k ((getK key ks ds).getD x) m3) : We c Γ n (tDGet2 ta tb tx) k := by
  intro y ρ σ H S Q hQ
  refine h y ρ σ H S _ fun m1 x H1 d1 n1 S1 x1 h1 k1 => ?_
  obtain ⟨⟨ks0, ds0, e0⟩, k1⟩ := k1
  have v0 := S1.lay.dv h1
  rw [e0] at v0
  obtain ⟨p, rfl, hd⟩ := isD_of v0
  refine ⟨p, rfl, hd, ?_⟩
  refine k1 _ ρ σ H1 S1 _ fun m2 z H2 e n2 S2 x2 h2 k2 => ?_
  refine k2 _ ρ σ H2 S2 _ fun m3 w H3 dx n3 S3 x3 hw k3 => ?_
  obtain ⟨ks, ds, key, e1, e2, k3⟩ := k3
  have hz := key_val h2 e2
  subst hz
  have v1 := S3.lay.dv ((h1.sx x2).sx x3)
  rw [e1] at v1
  obtain ⟨p', kvs, ep, h3, h4, h5⟩ := v1.isD
  cases ep
  refine ⟨valV kvs key, DGet.k h3, ?_⟩
  have xx := stp2 (stp2 x1 x2 S2) x3 S3
  rcases getK_data (key := key) h4 h5 with ⟨z1, z2⟩ | ⟨v, d', g1, g2, g3⟩
  · rw [z2] at k3
    rw [z1]
    exact hQ m3 _ H3 _ n3 S3 xx hw k3
  · rw [g2] at k3
    rw [g1]
    exact hQ m3 _ H3 _ n3 S3 xx g3 k3
/-! a[i] = e -/
/-- what a cell becomes by a[i] = e -/
def setE (d i e : Dt) : Option Dt := match d with
  | .lst ds => match i with
    | .int j => (ixN ds.length j).map fun kx => .lst (ds.set kx e)
    | _ => none
  | .dic ks ds => (keyD i).bind fun key => if szLt ks.length then some (.dic (putKs key ks) (putKd key e ks ds)) else none
  | _ => none
theorem w_setI (h : We c Γ n te fun e m => We c Γ m ta fun a m2 => We c Γ m2 tb fun i m3 => ∃ j d0 d, a = .rf j ∧ m3.s[j]? = some d0 ∧ setE d0 i e = some d ∧ N.nx Γ ⟨m3.n, m3.s.set j d⟩) : Ws c Γ n (tAsg te (gSub ta tb rSetX)) N := by
  intro y ρ σ H S D L
  refine h y ρ σ H S _ fun m1 v H1 e n1 S1 x1 h1 k1 => ?_
  refine k1 ⟨m1, y.ap⟩ ρ σ H1 S1 _ fun m2 w H2 a n2 S2 x2 h2 k2 => ?_
  refine k2 ⟨m2, y.ap⟩ ρ σ H2 S2 _ fun m3 u H3 i n3 S3 x3 h3 k3 => ?_
  obtain ⟨j, d0, d, rfl, hj, he, k3⟩ := k3
  have h2 := h2.sx x3
  have hv := (h1.sx x2).sx x3
  cases h2 with
  | @rf _ p hp =>
    have hp : m3[j]? = some p := hp
    obtain ⟨vs, ow, da⟩ := S3.lay.cel j _ p hj hp
    unfold setE at he
    split at he
    · rename_i ds
      split at he
      · rename_i jx
        obtain ⟨kx, e1, rfl⟩ := Option.map_eq_some_iff.mp he
        cases h3
        have da : DaAll (c.toWc.at_ ⟨m3, y.ap⟩) (c.toWc.at_ ⟨m3, y.ap⟩).av H3 vs ds := da
        refine .inl ⟨p, vs, jx, kx, rfl, rfl, ow.isL, by rw [da.length]; exact e1, ?_⟩
        obtain ⟨S4, x4⟩ := S3.store (d := .lst (ds.set kx e)) (u := .lst (vs.set kx v)) hj hp rfl rfl rfl (da.set hv kx)
        exact L.nx _ Γ _ σ _ S4 k3
      · cases he
    · rename_i ks ds
      obtain ⟨key, e1, e2⟩ := Option.bind_eq_some_iff.mp he
      split at e2
      · rename_i hz
        cases e2
        have hu := key_val h3 e1
        subst hu
        obtain ⟨o, g1, g2, g3, kvs, rfl, g5, g6⟩ := ow
        have da : DaAll (c.toWc.at_ ⟨m3, y.ap⟩) (c.toWc.at_ ⟨m3, y.ap⟩).av H3 (kvs.map (·.2)) ds := by rw [g6]; exact da
        obtain ⟨q1, q2⟩ := putK_data (key := key) hv g5 da
        refine .inr ⟨p, _, rfl, DPut.k g1 ?_, ?_⟩
        · rw [← List.length_map (as := kvs) (·.1), g5]; exact szlt hz
        · obtain ⟨S4, x4⟩ := S3.store (d := .dic (putKs key ks) (putKd key e ks ds)) (u := .dK (putK kvs key v)) hj hp rfl rfl ⟨_, rfl, q1, rfl⟩ q2
          exact L.nx _ Γ _ σ _ S4 k3
      · cases e2
    · cases he
end
/-! ### data without errors -/
mutual
def Dt.ne : Dt → Bool
  | .lst xs => Dt.nes xs
  | .tup xs => Dt.nes xs
  | .dic _ xs => Dt.nes xs
  | .obj _ _ xs => Dt.nes xs
  | .err _ _ _ => false
  | _ => true
def Dt.nes : List Dt → Bool
  | [] => true
  | x :: xs => Dt.ne x && Dt.nes xs
end
/-- two contexts of the same world -/
structure Alike (c1 c2 : Wc) : Prop where
  K : c1.K = c2.K
  mg : c1.mg = c2.mg
  a : c1.a = c2.a
  y : c1.y = c2.y
section
variable {c1 c2 : Wc} {av : Addr → Prop} {H : Hp}
mutual
theorem Da.swap (s : Alike c1 c2) : ∀ (d : Dt) (v : V), (d.ne = true ∨ c1.er = none) → Da c1 av H v d → Da c2 av H v d
  | .non, _, _, h => by cases h; exact .non
  | .bl _, _, _, h => by cases h; exact .bl _
  | .int _, _, _, h => by cases h; exact .int _
  | .str _, _, _, h => by cases h; exact .str _
  | .lst ds, _, e, h => by
    cases h with
    | lst h1 h2 h3 => exact .lst h1 h2 (DaAll.swap s ds _ (e.imp (fun z => by simpa [Dt.ne] using z) id) h3)
  | .tup ds, _, e, h => by
    cases h with
    | tup h2 h3 => exact .tup (s.K ▸ h2) (DaAll.swap s ds _ (e.imp (fun z => by simpa [Dt.ne] using z) id) h3)
  | .dic ks ds, _, e, h => by
    cases h with
    | dic h1 h2 h3 h4 => exact .dic h1 h2 h3 (DaAll.swap s ds _ (e.imp (fun z => by simpa [Dt.ne] using z) id) h4)
  | .obj cn ns ds, _, e, h => by
    cases h with
    | obj h1 h2 h3 h4 h5 => exact .obj h1 (s.mg ▸ h2) h3 h4 (DaAll.swap s ds _ (e.imp (fun z => by simpa [Dt.ne] using z) id) h5)
  | .err cn ns ds, _, e, h => by
    rcases e with z | z
    · simp [Dt.ne] at z
    · cases h with
      | err h1 h2 h3 h4 =>
        refine .err ?_ (s.mg ▸ h2) h3 (DaAll.swap s ds _ (.inr z) h4)
        rcases h1 with ⟨dd, q, _⟩ | h1
        · rw [z] at q
          cases q
        · exact .inr h1
  | .rf i, _, _, h => by
    cases h with
    | rf h1 => exact .rf (s.y ▸ h1)
  | .pen, _, _, h => by
    cases h
    rw [s.a]
    exact .pen
  | .cls cn, _, _, h => by cases h with | cls h1 => exact .cls (s.mg ▸ h1)
theorem DaAll.swap (s : Alike c1 c2) : ∀ (ds : List Dt) (vs : List V), (Dt.nes ds = true ∨ c1.er = none) → DaAll c1 av H vs ds → DaAll c2 av H vs ds
  | [], _, _, h => by cases h; exact .nil
  | d :: ds, _, e, h => by
    cases h with
    | cons h1 h2 =>
      have e1 : d.ne = true ∨ c1.er = none := e.imp (fun z => by simp [Dt.nes] at z; exact z.1) id
      have e2 : Dt.nes ds = true ∨ c1.er = none := e.imp (fun z => by simp [Dt.nes] at z; exact z.2) id
      exact .cons (Da.swap s d _ e1 h1) (DaAll.swap s ds _ e2 h2)
end
end
/-! ### errors -/
section
variable {c : Fc} {Γ : List Sl} {n : Cs} {k : Kd} {te : TE} {ta : TA} {N : Nd}
/-- isinstance of an error -/
theorem w_isHV {a D0 dd0 C : Addr} {cls : Value} {d : Option Addr} (her : c.er = some (a, D0, dd0)) (hcls : cls = .ref D0) (hd : d = some dd0)
    (h : We c Γ n te fun d1 m => ∃ cn ns ds b, d1 = .err cn ns ds ∧ (∀ D, c.mg cn = some (.ref D) → ecB c.K D = true ∧ PySem.W.kitOne c.K (.ref D) (.ref C) = some b) ∧ k (.bl b) m) :
    We c Γ n (tCB (rIsHV c.K a cls d) (tCons te (tCons (tC (.ref C)) tNil))) k := by
  intro y ρ σ H S Q hQ
  refine h y ρ σ H S _ fun m1 x H1 d1 n1 S1 x1 h1 k1 => ?_
  obtain ⟨cn, ns, ds, b, rfl, hC, k1⟩ := k1
  have hu : ∀ u, RelV (.ref C) u → u = .ref C := fun u r => r
  cases h1 with
  | err e1 e2 e3 e4 =>
    obtain ⟨T, kt⟩ := hC _ e2
    rcases e1 with ⟨dd, q1, q2, q3⟩ | ⟨dd, q1, q2, q3, q4⟩
    · have q1 : c.er = some (_, _, dd) := q1
      rw [her] at q1
      cases q1
      exact .inl ⟨_, _, _, .ref C, .ref C, b, rfl, hcls, hd, q3, T, hu, kt, hQ m1 _ H1 _ n1 S1 x1 (.bl b) k1⟩
    · exact .inr ⟨_, _, _, _, .ref C, .ref C, b, rfl, q3, q4, T, hu, kt, hQ m1 _ H1 _ n1 S1 x1 (.bl b) k1⟩
/-- a field of an error -/
theorem w_hvf {a D0 dd0 : Addr} {cls : Value} {d : Option Addr} {f : Str} (her : c.er = some (a, D0, dd0)) (hcls : cls = .ref D0) (hd : d = some dd0)
    (h : We c Γ n te fun d1 m => ∃ cn ns ds e, d1 = .err cn ns ds ∧ (∀ D, c.mg cn = some (.ref D) → ecB c.K D = true ∧ PySem.W.findIn c.K (.ref D) f = some none) ∧ (ns.zip ds).lookup f = some e ∧ k e m) :
    We c Γ n (tHVf c.K a cls d f te) k := by
  intro y ρ σ H S Q hQ
  refine h y ρ σ H S _ fun m1 x H1 d1 n1 S1 x1 h1 k1 => ?_
  obtain ⟨cn, ns, ds, e, rfl, hC, l, k1⟩ := k1
  cases h1 with
  | err e1 e2 e3 e4 =>
    obtain ⟨T, hno⟩ := hC _ e2
    obtain ⟨v, hl, hv⟩ := lookup_data e3 e4 l
    rcases e1 with ⟨dd, q1, q2, q3⟩ | ⟨dd, q1, q2, q3, q4⟩
    · have q1 : c.er = some (_, _, dd) := q1
      rw [her] at q1
      cases q1
      exact .inl ⟨_, _, _, v, rfl, hcls, hd, q3, T, hno, hl, hQ m1 _ H1 _ n1 S1 x1 hv k1⟩
    · exact .inr ⟨_, _, _, _, v, rfl, q3, q4, T, hno, hl, hQ m1 _ H1 _ n1 S1 x1 hv k1⟩
/-- raise x(e) -/
theorem w_raise {C : Addr} {f cn : Str} (hm : c.mg cn = some (.ref C)) (h : Wa c Γ n ta fun ds m => ∃ d, ds = [d] ∧ c.xk cn [(f, d)] m) : Ws c Γ n (tRaiseS C f (fun cls d _ H => c.E cls d H) ta) N := by
  intro y ρ σ H S D L
  refine h y ρ σ H S _ fun m1 vs H1 ds m S1 x1 h1 k1 => ?_
  obtain ⟨d, rfl, k1⟩ := k1
  cases h1 with
  | cons hv hn =>
    cases hn
    rename_i v
    refine ⟨v, rfl, fun x hx => ?_⟩
    have sm := same_new (o := .xd [(f, v)]) hx
    have S2 := S1.same sm
    have o := S2.out
    have nx := S1.lay.new hx
    refine S2.ex cn C x m1 _ [(f, v)] [(f, d)] m hm o.sx o.lay (fun z => nx (z.imp id fun z => z.imp id (S1.aps x))) upd_same rfl ?_ k1
    exact DaAll.drop' (c := c.toWc.at_ ⟨m1, y.ap⟩) (.cons (hv.keep (same_kp sm)) .nil) S1.aps
end
/-! ### x(lambda: e): the def x calls it in a try and holds the error -/
/-- the slots behind the try, where an error is held in slot j -/
def gamE (len j : Nat) (cn : Str) (es : List (Str × Dt)) : List Sl := (List.replicate len .un).set j (.da (.err cn (es.map (·.1)) (es.map (·.2))))
abbrev erC (c : Fc) (a C x : Addr) : Fc := { c with er := some (a, C, x), E := E0, xk := fun _ _ _ => False }
/-- what a lambda's error must be good for -/
def xkH (c : Fc) (CS : Addr) (j len : Nat) (k : Addr → Value → Option Addr → TS) (kk : Kd) : Str → List (Str × Dt) → Cs → Prop := fun cn es m =>
  (∀ C, c.mg cn = some (.ref C) → PySem.W.exmOne c.K (.ref C) (.ref CS) = some true) ∧ refBs 0 (es.map (·.2)) ∧
  ∀ a C x, c.mg cn = some (.ref C) → Ws (erC c a C x) (gamE len j cn es) ⟨m.n, []⟩ (k a (.ref C) (some x)) { nx := fun _ _ => False, rt := fun d m' => d.ne = true ∧ (m'.s = [] → kk d ⟨m'.n, m.s⟩) ∧ m'.s = [] }
abbrev lamC (c : Fc) (E : XK) (CS : Addr) (j len : Nat) (k : Addr → Value → Option Addr → TS) (kk : Kd) : Fc := { c with E := E, xk := xkH c CS j len k kk }
section
variable {c : Fc} {Γ : List Sl} {n : Cs} {kk : Kd} {CS : Addr} {i j len : Nat} {k : Addr → Value → Option Addr → TS} {t : XK → TE}
theorem prefix_nil_len {m : List Addr} {n : Cs} {c : Wc} {ap : List Addr} {H : Hp} (L : Lay (c.at_ ⟨m, ap⟩) n H) (h : n.s = []) : m = [] := by
  have := L.len
  rw [h] at this
  exact List.length_eq_zero_iff.mp this.symm
/-- the error's way: the rest behind the try, run over data, the cells put by -/
theorem eh_run {y : Ly} {ρ : Rt} {σ : L2.St} {H H1 H' : Hp} {Q : VK} {m : List Addr} {cn : Str} {C x : Addr} {fs : List (Str × V)} {es : List (Str × Dt)} {n' : Cs} (her : c.er = none) (hij : i ≠ j) (hjl : j < len) (S : SS (c.at_ y) ρ Γ n σ H) (st1 : Sx c.a y H y H1)
    (hQ : ∀ m v H' d n', SS (c.at_ ⟨m, y.ap⟩) ρ Γ n' σ H' → Sx c.a y H ⟨m, y.ap⟩ H' → Da (c.toWc.at_ ⟨m, y.ap⟩) (c.toWc.at_ ⟨m, y.ap⟩).av H' v d → kk d n' → Q v H')
    (hm : c.mg cn = some (.ref C)) (sx : Sx c.a y H1 ⟨m, y.ap⟩ H') (L : Lay (c.toWc.at_ ⟨m, y.ap⟩) n' H') (nx : ¬ (c.toWc.at_ ⟨m, y.ap⟩).av x) (hx : H' x = some (.xd fs)) (hn : fs.map (·.1) = es.map (·.1)) (da : DaAll (c.toWc.at_ ⟨m, y.ap⟩) (c.toWc.at_ ⟨m, y.ap⟩).av H' (fs.map (·.2)) (es.map (·.2))) (hxk : xkH c CS j len k kk cn es n') :
    Eh c.K CS i j len k Q (.ref C) (some x) H' := by
  intro σ' hσ'
  refine ⟨true, hxk.1 C hm, fun _ a ha => ?_, fun z => by cases z⟩
  obtain ⟨_, hb, hws⟩ := hxk
  have x2 : Sx c.a y H ⟨m, y.ap⟩ H' := st1.trans sx L.na L.dj
  -- the cells are put by
  have w : ∀ p, (c.toWc.at_ ⟨[], m ++ y.ap⟩).av p ↔ (c.toWc.at_ ⟨m, y.ap⟩).av p := fun p => by
    constructor
    · rintro (z | z | z)
      · exact .inl z
      · simp at z
      · rcases List.mem_append.mp z with z | z
        · exact .inr (.inl z)
        · exact .inr (.inr z)
    · rintro (z | z | z)
      · exact .inl z
      · exact .inr (.inr (List.mem_append_left _ z))
      · exact .inr (.inr (List.mem_append_right _ z))
  have lv : ∀ p ∈ m ++ y.ap, ∃ o, H' p = some o ∧ isT o = false ∧ isC o = false := fun p hp => by
    rcases List.mem_append.mp hp with z | z
    · obtain ⟨q, hq, e⟩ := List.getElem_of_mem z
      have e2 : m[q]? = some p := by rw [List.getElem?_eq_getElem hq, e]
      have hs : q < n'.s.length := by
        have := L.len
        rw [this]; exact hq
      obtain ⟨vs, ⟨o, h1, h2, h3, _⟩, _⟩ := L.cel q _ p (List.getElem?_eq_getElem hs) e2
      exact ⟨o, h1, h2, h3⟩
    · exact L.lv p z
  have L0 : Lay ((erC c a C x).toWc.at_ ⟨[], m ++ y.ap⟩) ⟨n'.n, []⟩ H' := {
    pen := L.pen
    pl := fun z => L.pl ((w _).mp z)
    len := rfl
    nd := by simp
    na := ⟨by simp, fun z => (List.mem_append.mp z).elim L.na.1 L.na.2⟩
    dj := fun p _ => by simp
    lv := lv
    cel := fun i d p h => by simp at h }
  have da0 : DaAll ((erC c a C x).toWc.at_ ⟨[], m ++ y.ap⟩) ((erC c a C x).toWc.at_ ⟨[], m ++ y.ap⟩).av H' (fs.map (·.2)) (es.map (·.2)) := by
    have d1 : DaAll (c.toWc.at_ ⟨[], m ++ y.ap⟩) (c.toWc.at_ ⟨[], m ++ y.ap⟩).av H' (fs.map (·.2)) (es.map (·.2)) := DaAll.trunc (c := c.toWc.at_ ⟨m, y.ap⟩) (c' := c.toWc.at_ ⟨[], m ++ y.ap⟩) (N := 0) ⟨rfl, rfl, rfl, rfl, fun i hi => absurd hi (Nat.not_lt_zero i)⟩ (fun p z => (w p).mp z) _ _ da hb
    exact DaAll.swap (c1 := c.toWc.at_ ⟨[], m ++ y.ap⟩) (c2 := (erC c a C x).toWc.at_ ⟨[], m ++ y.ap⟩) ⟨rfl, rfl, rfl, rfl⟩ _ _ (.inr her) d1
  have S4 : SS ((erC c a C x).at_ ⟨[], m ++ y.ap⟩) ⟨H', ⟨[], m ++ y.ap⟩, len⟩ (gamE len j cn es) ⟨n'.n, []⟩ (((σ'.set i (some (.ref a))).set j (some (.ref a))).set i none) H' := {
    len := by
      unfold gamE
      rw [List.length_set, List.length_set, List.length_set, List.length_set, List.length_replicate]
      exact hσ'
    gl := by
      unfold gamE
      rw [List.length_set, List.length_replicate]
    lay := L0
    sx := Sx.refl
    aps := fun _ h => h
    ex := fun _ _ _ _ _ _ _ _ _ _ _ _ _ _ _ z => z
    dat := fun l d h => by
      unfold gamE at h
      by_cases hl : j = l
      · subst hl
        rw [List.getElem?_set_self (by rw [List.length_replicate]; exact hjl)] at h
        cases h
        refine ⟨.ref a, ?_, .err (.inl ⟨x, rfl, fun z => nx ((w x).mp z), hx⟩) hm hn da0⟩
        rw [List.getElem?_set_ne hij, List.getElem?_set_self (by rw [List.length_set, hσ']; exact hjl)]
      · rw [List.getElem?_set_ne hl, List.getElem?_replicate] at h
        split at h <;> cases h }
  refine hws a C x hm _ _ _ H' S4 _ ⟨fun _ _ _ _ _ _ z => z.elim, fun m2 v H2 d n2 o da2 q => ?_, fun _ _ _ _ _ _ z => z.elim, fun _ _ _ _ _ _ z => z.elim⟩
  obtain ⟨hne, hkk, hs⟩ := q
  have hm2 : m2 = [] := prefix_nil_len o.lay hs
  subst hm2
  -- the cells are taken back
  have same : ∀ p, p ≠ c.a → ∀ u, H' p = some u → isT u = false → H2 p = some u := fun p hp u e t => o.sx.st p u hp (by simp) e t
  have kp : Kp (c.toWc.at_ ⟨m, y.ap⟩).av H' H2 := fun b u hb e t => same b (fun z => hb (.inl z)) u e t
  have L2 : Lay (c.toWc.at_ ⟨m, y.ap⟩) ⟨n2.n, n'.s⟩ H2 := {
    pen := o.lay.pen
    pl := L.pl
    len := L.len
    nd := L.nd
    na := L.na
    dj := L.dj
    lv := fun p hp => o.lay.lv p (List.mem_append_right _ hp)
    cel := fun i d p h1 h2 => by
      obtain ⟨vs, h3, h4⟩ := L.cel i d p h1 h2
      exact ⟨vs, h3.to fun u e t => same p (fun z => L.na.1 (z ▸ List.mem_of_getElem? h2)) u e t, h4.keep kp⟩ }
  have x3 : Sx c.a ⟨m, y.ap⟩ H' ⟨m, y.ap⟩ H2 := ⟨List.prefix_refl _, fun _ h => .inl h, fun _ h => .inl h, fun b u hb _ e t => same b hb u e t⟩
  have xx : Sx c.a y H ⟨m, y.ap⟩ H2 := x2.trans x3 L2.na L2.dj
  refine hQ m v H2 d ⟨n2.n, n'.s⟩ (S.go xx L2 fun _ z => z) xx ?_ (hkk hs)
  have d1 : Da (c.toWc.at_ ⟨[], m ++ y.ap⟩) (c.toWc.at_ ⟨[], m ++ y.ap⟩).av H2 v d := Da.swap (c1 := (erC c a C x).toWc.at_ ⟨[], m ++ y.ap⟩) (c2 := c.toWc.at_ ⟨[], m ++ y.ap⟩) ⟨rfl, rfl, rfl, rfl⟩ d v (.inl hne) da2
  exact Da.move (c := c.toWc.at_ ⟨[], m ++ y.ap⟩) (c' := c.toWc.at_ ⟨m, y.ap⟩) ⟨rfl, rfl, rfl, rfl, fun _ _ z => by simp at z⟩ (fun p z => .inl ((w p).mpr z)) (Kp.refl _ _) d v d1
theorem Pen.extN {a l : Addr} {ns : List Int} {T : List (Addr × Str)} {n : Nat} {H H1 : Hp} (p : Pen a l ns T n H) (e : LamX.ExtN H H1) (t : LamX.Tabs T H1) : Pen a l ns T n H1 := by
  obtain ⟨u, r, h1, h2, h3, h4, h5, h6, _⟩ := p
  exact ⟨u, r, e _ _ h1 (fun ps z => by cases z), e _ _ h2 (fun ps z => by cases z), h3, h4, h5, h6, t⟩
/-- return [ask()] -/
abbrev wrL : TE → TE := fun te => tLst (tCons te tNil)
theorem w_lamL (her : c.er = none) (hij : i ≠ j) (hjl : j < len) (hw : ∀ E, We (lamC c E CS j len k kk) Γ n (t E) fun v m => kk (.lst [v]) m) : We c Γ n (LamX.tLam c.T (TTh c.K CS i j len k wrL) t) kk := by
  intro y ρ σ H S Q hQ
  have hT : LamX.Tabs c.T H := by
    obtain ⟨u, r, h1, h2, h3, h4, h5, h6, h7⟩ := S.lay.pen
    exact h7
  refine ⟨hT, fun H1 eN T1 => ?_⟩
  have same : ∀ p u, H p = some u → isT u = false → H1 p = some u := fun p u e t => eN p u e fun ps z => by
    rw [z] at t
    cases t
  have st1 : Sx c.a y H y H1 := ⟨List.prefix_refl _, fun _ h => .inl h, fun _ h => .inl h, fun b o _ _ e t => same b o e t⟩
  have kp : Kp (c.toWc.at_ y).av H H1 := fun b o _ e t => same b o e t
  have L1 : Lay (c.toWc.at_ y) n H1 := {
    pen := S.lay.pen.extN eN T1
    pl := S.lay.pl
    len := S.lay.len
    nd := S.lay.nd
    na := S.lay.na
    dj := S.lay.dj
    lv := fun p hp => by
      obtain ⟨o, a1, a2, a3⟩ := S.lay.lv p hp
      exact ⟨o, same p o a1 a2, a2, a3⟩
    cel := fun i d p h1 h2 => by
      obtain ⟨vs, h3, h4⟩ := S.lay.cel i d p h1 h2
      exact ⟨vs, h3.to fun o e t => same p o e t, h4.keep kp⟩ }
  have S1 : SS (c.at_ y) ρ Γ n σ H1 := S.go (y := y) st1 L1 fun _ z => z
  intro σh hσh
  have Sl : SS ((lamC c (Eh c.K CS i j len k Q) CS j len k kk).at_ y) ⟨H1, y, Γ.length⟩ Γ n σ H1 := {
    len := S1.len
    gl := rfl
    lay := L1
    sx := Sx.refl
    aps := fun _ h => h
    ex := fun cn C x m H' fs es n' hm sx L nx hx hn da hxk => eh_run her hij hjl S st1 hQ hm sx L nx hx hn da hxk
    dat := S1.dat }
  refine hw (Eh c.K CS i j len k Q) y _ σ H1 Sl _ fun m v H2 d n2 S3 x3 hd hkd => ?_
  refine ⟨szl rfl, fun p hp => ?_⟩
  have sm := same_new (o := HO.lst [v]) hp
  have L3 : Lay (c.toWc.at_ ⟨m, y.ap⟩) n2 (upd H2 p (.lst [v])) := Lay.same (c := c.toWc.at_ ⟨m, y.ap⟩) S3.lay sm
  have x4 : Sx c.a y H ⟨m, y.ap⟩ (upd H2 p (.lst [v])) := (st1.trans x3 S3.lay.na S3.lay.dj).trans (Sx.same sm) L3.na L3.dj
  have hd : Da (c.toWc.at_ ⟨m, y.ap⟩) (c.toWc.at_ ⟨m, y.ap⟩).av H2 v d := hd
  exact hQ m (.ref p) _ (.lst [d]) n2 (S.go x4 L3 fun _ z => z) x4 (Da.newL (c := c.toWc.at_ ⟨m, y.ap⟩) (Lay.live (c := c.toWc.at_ ⟨m, y.ap⟩) S3.lay) hp (.cons hd .nil)) hkd
end
end Pb
namespace Pb
open PySem PySem.Spec PyProof.Rows L2

/-! ### operators, evaluated -/
inductive O2 where
  | add | sub | mul | mod | div | pow | lt | le | gt | ge | eq | ne | in_ | nin | is_ | isn | ix
def O2.r (K : PySem.W.Frag) : O2 → R2
  | .add => rAdd K
  | .sub => rSub
  | .mul => rMulX K
  | .mod => rMod
  | .div => rDiv
  | .pow => rPow
  | .lt => rLtX K
  | .le => rLe
  | .gt => rGt
  | .ge => rGe
  | .eq => rEqX K
  | .ne => rNeX K
  | .in_ => rInY K false
  | .nin => rInY K true
  | .is_ => rIs
  | .isn => rIsNot
  | .ix => rIxX K
/-- x == y -/
def eqE (d e : Dt) : Option Bool := if scalD d e then some (sameD d e) else if d.pl 20 && e.pl 20 then some (d.eqv e) else match d, e with
  | .lst ds, .lst [] => some ds.isEmpty
  | _, _ => none
def inE (d e : Dt) : Option Bool := match e with
  | .str z => (match d with
    | .str ⟨⟨[s]⟩⟩ => some (decide (s ∈ z.cps.toList))
    | _ => none)
  | .tup ds => if flatD d && ds.all flatD then some (ds.any fun e => eqvD e d) else none
  | .lst ds => if flatD d && ds.all flatD then some (ds.any fun e => eqvD e d) else none
  | .dic ks ds => (keyD d).map fun key => (getK key ks ds).isSome
  | _ => none
def cmulB (i j : Int) : Bool := (decide (-(2 ^ 64) < i) && decide (i < 2 ^ 64)) || (decide (-(2 ^ 64) < j) && decide (j < 2 ^ 64))
theorem cmulB_ok {i j : Int} (h : cmulB i j = true) : CMul i j := by
  unfold cmulB at h
  simp only [Bool.or_eq_true, Bool.and_eq_true, decide_eq_true_eq] at h
  exact h
def O2.ev : O2 → Dt → Dt → Option Dt
  | .add, .int i, .int j => some (.int (i + j))
  | .add, .str x, .str y => if szOk (x.length + y.length) then some (.str (x ++ y)) else none
  | .add, .lst xs, .lst ys => if szOk (xs.length + ys.length) then some (.lst (xs ++ ys)) else none
  | .add, .tup xs, .tup ys => if szOk (xs.length + ys.length) then some (.tup (xs ++ ys)) else none
  | .sub, .int i, .int j => some (.int (i - j))
  | .mul, .int i, .int j => if cmulB i j then some (.int (i * j)) else none
  | .mul, .lst xs, .int m => if decide (-(2 ^ 63) ≤ m) && decide (m < 2 ^ 63) && szOk (xs.length * m.toNat) then some (.lst (List.replicate m.toNat xs).flatten) else none
  | .mul, .tup xs, .int m => if decide (1 ≤ m) && decide (m ≤ 1000) && (!xs.isEmpty && decide (xs.length ≤ 1000)) then some (.tup (List.replicate m.toNat xs).flatten) else none
  | .mod, .int i, .int j => if 0 < j then some (.int (i % j)) else none
  | .div, .int i, .int j => if 0 < j ∧ j < 1073741824 then some (.int (i / j)) else none
  | .pow, .int i, .int j => if 0 ≤ j ∧ j ≤ 1000000 ∧ i.natAbs < 2 ^ 64 then some (.int (i ^ j.toNat)) else none
  | .lt, .int i, .int j => some (.bl (decide (i < j)))
  | .lt, .str x, .str y => some (.bl (decide (x.cps.toList < y.cps.toList)))
  | .lt, .tup xs, .tup ys => (intsE xs).bind fun xs => (intsE ys).map fun ys => .bl (HT.lexLt xs ys)
  | .le, .int i, .int j => some (.bl (decide (i ≤ j)))
  | .gt, .int i, .int j => some (.bl (decide (j < i)))
  | .ge, .int i, .int j => some (.bl (decide (j ≤ i)))
  | .eq, d, e => (eqE d e).map Dt.bl
  | .ne, d, e => (eqE d e).map fun b => .bl (!b)
  | .in_, d, e => (inE d e).map Dt.bl
  | .nin, d, e => (inE d e).map fun b => .bl (!b)
  | .is_, d, .non => some (.bl (match d with | .non => true | _ => false))
  | .isn, d, .non => some (.bl (match d with | .non => false | _ => true))
  | .ix, .lst xs, .int i => atI xs i
  | .ix, .tup xs, .int i => atI xs i
  | .ix, .str z, .int i => if szOk z.length then (atI z.cps.toList i).map fun s => .str ⟨#[s]⟩ else none
  | .ix, .dic ks ds, e => (keyD e).bind fun key => getK key ks ds
  | _, _, _ => none
section
variable {c : Fc} {n : Cs} {k : Dt → Prop} {r r' : R2} {d1 d2 : Dt}
theorem R2V.inl (h : R2V c n r d1 d2 k) : R2V c n (fun x y H Q => r x y H Q ∨ r' x y H Q) d1 d2 k := fun y H x z L a b Q q => .inl (h y H x z L a b Q q)
theorem R2V.inr (h : R2V c n r' d1 d2 k) : R2V c n (fun x y H Q => r x y H Q ∨ r' x y H Q) d1 d2 k := fun y H x z L a b Q q => .inr (h y H x z L a b Q q)
theorem R2N.inl (h : R2N c n r d1 d2 k) : R2N c n (fun x y H Q => r x y H Q ∨ r' x y H Q) d1 d2 k := fun y H x z L a b Q q => .inl (h y H x z L a b Q q)
theorem R2N.inr (h : R2N c n r' d1 d2 k) : R2N c n (fun x y H Q => r x y H Q ∨ r' x y H Q) d1 d2 k := fun y H x z L a b Q q => .inr (h y H x z L a b Q q)
theorem n_mulL {ds : List Dt} {m : Int} (e1 : dr n.s d1 = .lst ds) (e2 : dr n.s d2 = .int m) (h0 : -(2 ^ 63) ≤ m) (h1 : m < 2 ^ 63) (hz : szOk (ds.length * m.toNat) = true) (h : k (.lst (List.replicate m.toNat ds).flatten)) : R2N c n (rMulX c.K) d1 d2 k := by
  intro y H a b L g1 g2 Q q
  have v1 := L.dv g1
  have v2 := L.view g2
  rw [e1] at v1
  rw [e2] at v2
  cases v2
  obtain ⟨p, vs, rfl, h3, h4⟩ := v1.isL
  exact .inl (.inr ⟨p, m, vs, rfl, rfl, h3, h0, h1, by rw [h4.length]; exact szl hz, fun p hp => q p _ _ (.lst (List.replicate m.toNat ds).flatten) hp rfl rfl rfl (h4.rep _) h⟩)
theorem v_mulT {ds : List Dt} {m : Int} (e1 : dr n.s d1 = .tup ds) (e2 : dr n.s d2 = .int m) (h0 : 1 ≤ m) (h1 : m ≤ 1000) (hz : ds ≠ [] ∧ ds.length ≤ 1000) (h : k (.tup (List.replicate m.toNat ds).flatten)) : R2V c n (rMulX c.K) d1 d2 k := by
  intro y H a b L g1 g2 Q q
  have v1 := L.dv g1
  have v2 := L.view g2
  rw [e1] at v1
  rw [e2] at v2
  cases v2
  obtain ⟨p, vs, rfl, h3, h4⟩ := v1.isT
  exact r_mulT (c := c.at_ y) (n := n.n) (k := k) h0 h1 hz h (c.at_ y).av H (.ref p) (.int m) L.live ⟨.inl rfl, L.pl, L.pen⟩ (.tup h3 h4) (.int m) Q q
theorem eqE_ok {c : Fc} {n : Nat} {k : Dt → Prop} {d e : Dt} {b : Bool} (h : eqE d e = some b) : (k (.bl b) → R2D c n (rEqX c.K) d e k) ∧ (k (.bl (!b)) → R2D c n (rNeX c.K) d e k) := by
  unfold eqE at h
  split at h
  · rename_i hs
    cases h
    exact ⟨r_eqC hs, r_neC hs⟩
  · split at h
    · rename_i hp
      rw [Bool.and_eq_true] at hp
      cases h
      exact ⟨r_eqP hp.1 hp.2, r_neP hp.1 hp.2⟩
    · split at h
      · cases h
        exact ⟨r_eqNil, r_neNilD⟩
      · cases h
theorem inE_ok {neg b : Bool} (h : inE (dr n.s d1) (dr n.s d2) = some b) (q : k (.bl (Bool.xor neg b))) : R2V c n (rInY c.K neg) d1 d2 k := by
  have e : (if neg then !b else b) = Bool.xor neg b := by cases neg <;> cases b <;> rfl
  have old : (∀ y, R2D (c.at_ y) n.n (rInX c.K neg) (dr n.s d1) (dr n.s d2) fun z => z = .bl (Bool.xor neg b)) → R2V c n (rInY c.K neg) d1 d2 k := fun h => R2V.inl (r2_lift h rfl q)
  unfold inE at h
  split at h
  · rename_i z hz
    split at h
    · rename_i s hs
      cases h
      refine old fun y => ?_
      rw [hs, hz]
      exact r_inS (c := c.at_ y) (by rw [← e])
    · cases h
  · rename_i ds hz
    split at h
    · rename_i hp
      rw [Bool.and_eq_true] at hp
      cases h
      refine old fun y => ?_
      rw [hz]
      exact r_inT (c := c.at_ y) hp.1 hp.2 (by rw [← e])
    · cases h
  · rename_i ds hz
    split at h
    · rename_i hp
      rw [Bool.and_eq_true] at hp
      cases h
      refine old fun y => ?_
      rw [hz]
      exact r_inL (c := c.at_ y) hp.1 hp.2 (by rw [← e])
    · cases h
  · rename_i ks ds hz
    obtain ⟨key, hk, rfl⟩ := Option.map_eq_some_iff.mp h
    have hk' : keyD d1 = some key ∨ ∃ i, d1 = .rf i := by
      cases d1 with
      | rf i => exact .inr ⟨i, rfl⟩
      | _ => exact .inl hk
    rcases hk' with hk' | ⟨i, rfl⟩
    · exact R2V.inr (v_inD hk' hz q)
    · -- no cell is a key
      intro y H a b L g1 g2 Q q'
      exfalso
      have v1 := L.dv g1
      cases hd : dr n.s (.rf i) with
      | int j =>
        rw [hd] at v1
        cases v1 with | da v1 => cases v1; cases g1
      | str j =>
        rw [hd] at v1
        cases v1 with | da v1 => cases v1; cases g1
      | _ => rw [hd] at hk; cases hk
  · cases h
theorem dr_int {s : List Dt} {d : Dt} {v : V} {c : Wc} {av : Addr → Prop} {H : Hp} {i : Int} (L : dr s d = .int i) (h : Da c av H v d) (w : ∀ j p, d = .rf j → c.y.m[j]? = some p → False) : d = .int i := by
  cases d with
  | rf j => cases h with | rf h1 => exact (w j _ rfl h1).elim
  | _ => exact L
/-- an operator on the values as they stand -/
theorem O2.sound {o : O2} {x : Dt} (h : o.ev (dr n.s d1) (dr n.s d2) = some x) (q : k x) : R2V c n (o.r c.K) d1 d2 k := by
  have at1 : ∀ {r : R2} {x : Dt}, x.atom = true → k x → (∀ y, R2D (c.at_ y) n.n r (dr n.s d1) (dr n.s d2) fun z => z = x) → R2V c n r d1 d2 k := fun ha hk h => r2_lift h ha hk
  generalize e1 : dr n.s d1 = a at h at1
  generalize e2 : dr n.s d2 = b at h at1
  unfold O2.ev at h
  split at h
  · cases h; exact at1 rfl q fun y => r_addI (c := c.at_ y) rfl
  · split at h
    · cases h; exact at1 rfl q fun y => r_addS (c := c.at_ y) (by assumption) rfl
    · cases h
  · split at h
    · cases h; exact (n_addL e1 e2 (by assumption) q).tree
    · cases h
  · split at h
    · cases h; exact v_addT e1 e2 (by assumption) q
    · cases h
  · cases h; exact at1 rfl q fun y => r_subI (c := c.at_ y) rfl
  · split at h
    · cases h; exact at1 rfl q fun y => r_mulXI (c := c.at_ y) (cmulB_ok (by assumption)) rfl
    · cases h
  · split at h
    · rename_i hp
      simp only [Bool.and_eq_true, decide_eq_true_eq] at hp
      cases h; exact (n_mulL e1 e2 hp.1.1 hp.1.2 hp.2 q).tree
    · cases h
  · split at h
    · rename_i xs m hp
      simp only [Bool.and_eq_true, decide_eq_true_eq] at hp
      cases h; exact v_mulT e1 e2 hp.1.1 hp.1.2 ⟨fun z => by rw [z] at hp; simp at hp, hp.2.2⟩ q
    · cases h
  · split at h
    · cases h; exact at1 rfl q fun y => r_modI (c := c.at_ y) (by assumption) rfl
    · cases h
  · split at h
    · cases h; exact at1 rfl q fun y => r_divI (c := c.at_ y) (by assumption) rfl
    · cases h
  · split at h
    · cases h; exact at1 rfl q fun y => r_powI (c := c.at_ y) (by assumption) rfl
    · cases h
  · cases h; exact at1 rfl q fun y => r_ltXI (c := c.at_ y) rfl
  · cases h; exact at1 rfl q fun y => r_ltXS (c := c.at_ y) rfl
  · obtain ⟨xs, h1, h2⟩ := Option.bind_eq_some_iff.mp h
    obtain ⟨ys, h3, rfl⟩ := Option.map_eq_some_iff.mp h2
    rw [intsE_ok h1, intsE_ok h3] at at1
    exact at1 rfl q fun y => r_ltT (c := c.at_ y) rfl
  · cases h; exact at1 rfl q fun y => r_leI (c := c.at_ y) rfl
  · cases h; exact at1 rfl q fun y => r_gtI (c := c.at_ y) rfl
  · cases h; exact at1 rfl q fun y => r_geI (c := c.at_ y) rfl
  · obtain ⟨b, hb, rfl⟩ := Option.map_eq_some_iff.mp h
    exact at1 rfl q fun y => (eqE_ok (c := c.at_ y) hb).1 rfl
  · obtain ⟨b, hb, rfl⟩ := Option.map_eq_some_iff.mp h
    exact at1 rfl q fun y => (eqE_ok (c := c.at_ y) hb).2 rfl
  · obtain ⟨b, hb, rfl⟩ := Option.map_eq_some_iff.mp h
    rw [← e1, ← e2] at hb
    exact inE_ok (neg := false) hb (by simpa using q)
  · obtain ⟨b, hb, rfl⟩ := Option.map_eq_some_iff.mp h
    rw [← e1, ← e2] at hb
    exact inE_ok (neg := true) hb (by simpa using q)
  · cases h; exact at1 rfl q fun y => r_isN (c := c.at_ y) rfl rfl
  · cases h; exact at1 rfl q fun y => r_notN (c := c.at_ y) rfl rfl
  · rename_i xs i
    intro y H x z L g1 g2 Q hQ
    have e2' : d2 = .int i := dr_int e2 g2 fun j p ej hp => by
      subst ej
      have v := L.dv g2
      rw [e2] at v
      cases v with | da v => cases v; cases g2
    exact R2V.inl (v_ixL e1 e2' h q) y H x z L g1 g2 Q hQ
  · rename_i xs i
    intro y H x z L g1 g2 Q hQ
    have e2' : d2 = .int i := dr_int e2 g2 fun j p ej hp => by
      subst ej
      have v := L.dv g2
      rw [e2] at v
      cases v with | da v => cases v; cases g2
    exact R2V.inl (v_ixT e1 e2' h q) y H x z L g1 g2 Q hQ
  · split at h
    · obtain ⟨s, hs, rfl⟩ := Option.map_eq_some_iff.mp h
      exact R2V.inl (at1 rfl q fun y => r_ixS (c := c.at_ y) (by assumption) hs rfl)
    · cases h
  · obtain ⟨key, hk, h3⟩ := Option.bind_eq_some_iff.mp h
    intro y H x z L g1 g2 Q hQ
    have hk' : keyD d2 = some key := by
      cases d2 with
      | rf j =>
        exfalso
        have v := L.dv g2
        rw [e2] at v
        cases b <;> first | (cases hk; cases v with | da v => cases v; cases g2) | (cases hk)
      | _ => subst e2; exact hk
    exact R2V.inr (v_ixD e1 hk' h3 q) y H x z L g1 g2 Q hQ
  · cases h
/-- .. that makes a new object -/
def O2.evN : O2 → Dt → Dt → Option Dt
  | .add, .lst xs, .lst ys => if szOk (xs.length + ys.length) then some (.lst (xs ++ ys)) else none
  | .mul, .lst xs, .int m => if decide (-(2 ^ 63) ≤ m) && decide (m < 2 ^ 63) && szOk (xs.length * m.toNat) then some (.lst (List.replicate m.toNat xs).flatten) else none
  | _, _, _ => none
theorem O2.soundN {o : O2} {x : Dt} (h : o.evN (dr n.s d1) (dr n.s d2) = some x) (q : k x) : R2N c n (o.r c.K) d1 d2 k := by
  generalize e1 : dr n.s d1 = a at h
  generalize e2 : dr n.s d2 = b at h
  unfold O2.evN at h
  split at h
  · split at h
    · cases h; exact n_addL e1 e2 (by assumption) q
    · cases h
  · split at h
    · rename_i hp
      simp only [Bool.and_eq_true, decide_eq_true_eq] at hp
      cases h; exact n_mulL e1 e2 hp.1.1 hp.1.2 hp.2 q
    · cases h
  · cases h
end
/-! ### built-ins, evaluated -/
inductive Bl where
  | len | abs | int | list | tuple | str | all | any | repr
def Bl.r (K : PySem.W.Frag) : Bl → List V → Hp → VK → Prop
  | .len => rLen K
  | .abs => rAbs
  | .int => rInt
  | .list => rList K
  | .tuple => rTuple K
  | .str => rStr
  | .all => rAll K
  | .any => rAny K
  | .repr => rRepr K
def blsE : List Dt → Option (List Bool)
  | [] => some []
  | .bl b :: ds => (blsE ds).map (b :: ·)
  | _ => none
theorem blsE_ok : ∀ {ds : List Dt} {bs : List Bool}, blsE ds = some bs → ds = bs.map Dt.bl
  | [], _, h => by cases h; rfl
  | .bl b :: ds, bs, h => by
    obtain ⟨cs, h1, rfl⟩ := Option.map_eq_some_iff.mp (show (blsE ds).map (b :: ·) = some bs from h)
    rw [blsE_ok h1]
    rfl
theorem blsE_map (bs : List Bool) : blsE (bs.map Dt.bl) = some bs := by
  induction bs with
  | nil => rfl
  | cons b bs ih =>
    show (blsE (bs.map Dt.bl)).map (b :: ·) = _
    rw [ih]
    rfl
def Bl.ev : Bl → List Dt → Option Dt
  | .len, [.lst ds] => some (.int ds.length)
  | .len, [.tup ds] => some (.int ds.length)
  | .len, [.str z] => if szOk z.length then some (.int z.length) else none
  | .len, [.dic ks _] => some (.int ks.length)
  | .abs, [.int i] => some (.int (if i < 0 then -i else i))
  | .int, [.int i] => some (.int i)
  | .int, [.bl b] => some (.int (if b then 1 else 0))
  | .int, [.str z] => if z.length ≤ 640 then (PySem.intText? z).map Dt.int else none
  | .list, [.lst ds] => some (.lst ds)
  | .list, [.tup ds] => some (.lst ds)
  | .tuple, [.lst ds] => some (.tup ds)
  | .tuple, [.tup ds] => some (.tup ds)
  | .str, [.int i] => if i.natAbs.log2 < 1920 then some (.str (toString i)) else none
  | .str, [.str z] => some (.str z)
  | .all, [.lst ds] => (blsE ds).map fun bs => .bl (bs.all id)
  | .any, [.lst ds] => (blsE ds).map fun bs => .bl (bs.any id)
  | .repr, [d] => if d.ro 20 && decide (d.rw ≤ 16777216) then some (.str d.sh) else none
  | _, _ => none
theorem c_any {c : Fc} {n : Nat} {k : Dt → Nat → Prop} {bs : List Bool} (h : k (.bl (bs.any id)) n) : RCD c (rAny c.K) [.lst (bs.map Dt.bl)] n k := rc_pure fun av H vs lv pa da Q q => by
  cases da with
  | cons h1 h2 =>
    cases h2
    cases h1 with
    | lst a1 a2 a3 =>
      have e := a3.bls
      subst e
      exact ⟨_, bs, rfl, SqL.of a2, q _ H _ (Same.refl H) (.bl _) h⟩
section
variable {c : Fc} {n : Cs} {k : Dt → Prop}
theorem map_one {α β : Type} {f : α → β} {ds : List α} {b : β} (h : ds.map f = [b]) : ∃ d, ds = [d] ∧ f d = b := by
  match ds, h with
  | [d], h => exact ⟨d, rfl, by simpa using h⟩
theorem Bl.sound (hs : ∃ o, c.K.lookup sysModules = some o) {o : Bl} {ds : List Dt} {x : Dt} (h : o.ev (ds.map (dr n.s)) = some x) (q : k x) : RPV c n (o.r c.K) ds k := by
  have at1 : ∀ {r : List V → Hp → VK → Prop} {x : Dt}, x.atom = true → k x → (∀ y, RCD (c.at_ y) r (ds.map (dr n.s)) n.n fun z _ => z = x) → RPV c n r ds k := fun ha hk h => rp_lift h ha hk
  generalize e1 : ds.map (dr n.s) = a at h at1
  unfold Bl.ev at h
  split at h
  · cases h; exact at1 rfl q fun y => c_lenL (c := c.at_ y) rfl
  · cases h; exact at1 rfl q fun y => c_lenT (c := c.at_ y) rfl
  · split at h
    · cases h; exact at1 rfl q fun y => c_lenS (c := c.at_ y) (by assumption) rfl
    · cases h
  · cases h; exact at1 rfl q fun y => c_lenD (c := c.at_ y) rfl
  · cases h; exact at1 rfl q fun y => c_abs (c := c.at_ y) rfl
  · cases h; exact at1 rfl q fun y => c_intI (c := c.at_ y) rfl
  · cases h; exact at1 rfl q fun y => c_intB (c := c.at_ y) rfl
  · split at h
    · obtain ⟨i, hi, rfl⟩ := Option.map_eq_some_iff.mp h
      exact at1 rfl q fun y => c_intS (c := c.at_ y) hi (by assumption) rfl
    · cases h
  · cases h
    obtain ⟨d, rfl, e⟩ := map_one e1
    exact (vp_listL e q).tree
  · cases h
    obtain ⟨d, rfl, e⟩ := map_one e1
    exact (vp_listT e q).tree
  · cases h
    obtain ⟨d, rfl, e⟩ := map_one e1
    exact vp_tupleL e q
  · cases h
    obtain ⟨d, rfl, e⟩ := map_one e1
    exact vp_tupleT e q
  · split at h
    · cases h; exact at1 rfl q fun y => c_strI (c := c.at_ y) (by assumption) rfl
    · cases h
  · cases h; exact at1 rfl q fun y => c_strS (c := c.at_ y) rfl
  · obtain ⟨bs, hb, rfl⟩ := Option.map_eq_some_iff.mp h
    rw [blsE_ok hb] at at1
    exact at1 rfl q fun y => c_all (c := c.at_ y) rfl
  · obtain ⟨bs, hb, rfl⟩ := Option.map_eq_some_iff.mp h
    rw [blsE_ok hb] at at1
    exact at1 rfl q fun y => c_any (c := c.at_ y) rfl
  · split at h
    · rename_i hp
      rw [Bool.and_eq_true, decide_eq_true_eq] at hp
      cases h
      exact at1 rfl q fun y => c_reprD (c := c.at_ y) hs hp.1 (by decide) hp.2 rfl
    · cases h
  · cases h
/-- those that make a new object -/
def Bl.evN : Bl → List Dt → Option Dt
  | .list, [.lst ds] => some (.lst ds)
  | .list, [.tup ds] => some (.lst ds)
  | _, _ => none
theorem Bl.soundN {o : Bl} {ds : List Dt} {x : Dt} (h : o.evN (ds.map (dr n.s)) = some x) (q : k x) : RPN c n (o.r c.K) ds k := by
  generalize e1 : ds.map (dr n.s) = a at h
  unfold Bl.evN at h
  split at h
  · cases h
    obtain ⟨d, rfl, e⟩ := map_one e1
    exact vp_listL e q
  · cases h
    obtain ⟨d, rfl, e⟩ := map_one e1
    exact vp_listT e q
  · cases h
end
end Pb
namespace Pb
open PySem PySem.Spec PyProof.Rows L2

/-! ### terms -/
/-- targets: a name, or a tuple of names -/
inductive Tg where
  | name (i : Nat)
  | tup (is : List Nat)
def gsOf : List Nat → TGs
  | [] => gNil
  | i :: is => gCons (gName i) (gsOf is)
def Tg.g (K : PySem.W.Frag) : Tg → TG
  | .name i => gName i
  | .tup is => gTup K is.length (gsOf is)
def Tg.js : Tg → List Nat
  | .name i => [i]
  | .tup is => is
/-- methods of lists that are cells -/
inductive Lm where
  | append | pop | popAt | extend | insert | clear
def Lm.r : Lm → V → List V → Hp → VK → Prop
  | .append => rAppend
  | .pop => rPop
  | .popAt => rPopAt
  | .extend => rExtend
  | .insert => rInsert
  | .clear => rClear
mutual
inductive Te : Type where
  | var (i : Nat)
  | non
  | bl (b : Bool)
  | int (i : Int)
  | str (x : Str)
  | op (o : O2) (a b : Te)
  | neg (a : Te)
  | not_ (a : Te)
  | and_ (a b : Te)
  | or_ (a b : Te)
  | ifx (t : Tt) (a b : Te)
  | lst (as : Ta)
  | tup (as : Ta)
  | dnew
  | disp (ps : Tp)
  | nw (a : Te)
  | sl (a : Te) (lo hi : To)
  | rev (a : Te)
  | chain (o p : O2) (a b c : Te)
  | call (e : Bool) (f : Nat) (as : Ta)
  | callK (e : Bool) (f : Nat) (na nk : Nat) (as ks : Ta)
  | callP (e : Bool) (f : Nat) (na nk : Nat) (ix : List Nat) (as ks : Ta)
  | blt (b : Bl) (as : Ta)
  | isi (T : Tn) (a : Te)
  | isiTL (a : Te)
  | join (a b : Te)
  | split (a b : Te)
  | lc (it : Ti) (g : Tg) (tt : Tt) (el : Te)
  | hear (ex : Str) (i j len : Nat) (rest : Ts) (body : Te)
  | isH (C : Str) (a : Te)
  | hvf (f : Str) (a : Te)
  | at_ (f : Str) (cs : List (Str × Atk)) (a : Te)
  | me (e : Bool) (m : Str) (cs : List (Str × Nat)) (a : Te) (as : Ta)
  | mk (e : Bool) (cn : Str) (id na nk : Nat) (ix : List Nat) (as ks : Ta)
  | isq (b : Cq) (a : Te)
  | isqT (b : Cq) (bs : List Cq) (a : Te)
  | eqO (ne : Bool) (cs : List (Str × Nat)) (a b : Te)
  | su (e : Bool) (i : Nat) (cs : List (Str × Nat)) (as : Ta)
  | bm (m : Lm) (a : Te) (as : Ta)
  | bm0 (m : Lm) (a : Te)
  | get1 (a b : Te)
  | get2 (a b x : Te)
  | sld (a : Te)
inductive Ta : Type where
  | nil
  | cons (a : Te) (as : Ta)
inductive Tp : Type where
  | nil
  | cons (k v : Te) (ps : Tp)
inductive Tt : Type where
  | test (a : Te)
  | tr (a : Te)
  | and_ (a b : Tt)
  | or_ (a b : Tt)
  | not_ (a : Tt)
  | yes
inductive To : Type where
  | none
  | some (a : Te)
inductive Ti : Type where
  | sq (a : Te)
  | rng1 (as : Ta)
  | rng2 (as : Ta)
inductive Ts : Type where
  | seq (a b : Ts)
  | asg (i : Nat) (a : Te)
  | asgG (is : List Nat) (a : Te)
  | ret (a : Te)
  | retN
  | ifS (t : Tt) (a b : Ts)
  | for_ (it : Ti) (g : Tg) (b : Ts)
  | while_ (fuel : Nat) (t : Tt) (b : Ts)
  | next
  | brk
  | cont
  | drop (a : Te)
  | rais (cn f : Str) (a : Te)
  | par (i j : Nat) (a b : Te)
  | setF (a : Te) (f : Str) (e : Te)
  | augF (a : Te) (f : Str) (o : O2) (e : Te)
  | setI (a i e : Te)
end
/-- == and !=, of objects by their own __eq__, of others as built in -/
def rEqN (K : PySem.W.Frag) : Bool → R2
  | true => rNeX K
  | false => rEqX K
def rEqA (K : PySem.W.Frag) (sp : Nat → Sp) (ne : Bool) (cs : List (Str × Nat)) : R2 := fun x y H Q => rEqO K sp ne cs x y H Q ∨ rEqN K ne x y H Q
section
variable {X : Cx} {sp : Nat → Sp} {cs : List (Str × Nat)}
theorem o_eqA {c : Nat} (hc : ∀ x ∈ cs, EqOk X sp x.1 x.2) (ho : OpR X (compareOp .Eq) (rEqX X.K)) : OpR X (compareOp .Eq) (rEqA X.K sp false cs) := OpR.or2 (op_eqO hc) ho
theorem o_neA {c : Nat} (hc : ∀ x ∈ cs, EqOk X sp x.1 x.2) (ho : OpR X (compareOp .NotEq) (rNeX X.K)) : OpR X (compareOp .NotEq) (rEqA X.K sp true cs) := OpR.or2 (op_neO hc) ho
end
/-- may errors pass? -/
def selE (e : Bool) (E : XK) : XK := match e with | true => E | false => E0
def selF {α : Type} (e : Bool) (f : Ev α) : Ev α := match e with | true => f | false => f.calm
@[simp] theorem selF_t {α : Type} (f : Ev α) : selF true f = f := rfl
@[simp] theorem selF_f {α : Type} (f : Ev α) : selF false f = f.calm := rfl
/-! ### readings -/
structure Dn where
  K : PySem.W.Frag
  T : List (Addr × Str)
  mg : Str → Option Value
  E : XK
  sp : Nat → Sp
  a : Addr := 0
  cls : Value := .none
  d : Option Addr := none
mutual
def den : Te → Dn → TE
  | .var i, _ => tVar i
  | .non, _ => tC .non
  | .bl b, _ => tC (.bl b)
  | .int i, _ => tC (.int i)
  | .str x, _ => tC (.str x)
  | .op o a b, p => tOp (o.r p.K) (den a p) (den b p)
  | .neg a, p => tUn (rU fun i => .int (-i)) (den a p)
  | .not_ a, p => tNotT p.K (den a p)
  | .and_ a b, p => tAndT p.K (den a p) (den b p)
  | .or_ a b, p => tOrT p.K (den a p) (den b p)
  | .ifx t a b, p => tIf (denT t p) (den a p) (den b p)
  | .lst as, p => tLst (denA as p)
  | .tup as, p => tTup (denA as p)
  | .dnew, _ => tDNewK
  | .disp ps, p => tDisp (denP ps p)
  | .nw a, p => den a p
  | .sl a lo hi, p => tSl (rSl p.K) (den a p) (denO lo p) (denO hi p)
  | .rev a, p => tRev p.K (den a p)
  | .chain o q a b c, p => tChain (o.r p.K) (q.r p.K) (den a p) (den b p) (den c p)
  | .call e f as, p => tCB (fun vs H Q => p.sp f vs H Q (selE e p.E)) (denA as p)
  | .callK e f na nk as ks, p => tCK gApp na nk (fun vs H Q => p.sp f vs H Q (selE e p.E)) (denA as p) (denA ks p)
  | .callP e f na nk ix as ks, p => tCK (gPm ix) na nk (fun vs H Q => p.sp f vs H Q (selE e p.E)) (denA as p) (denA ks p)
  | .blt b as, p => tCB (b.r p.K) (denA as p)
  | .isi T a, p => tCB (rIsi p.K) (tCons (den a p) (tCons (tC (.ty T.s)) tNil))
  | .isiTL a, p => tCB (rIsiT p.K) (tCons (den a p) (tCons (tTup (tCons (tC (.ty "tuple")) (tCons (tC (.ty "list")) tNil))) tNil))
  | .join a b, p => tM1 (rJoin p.K) (den a p) (den b p)
  | .split a b, p => tM1 rSplit (den a p) (den b p)
  | .lc it g tt el, p => tLc (denI it p) (g.g p.K) (denT tt p) (den el p) g.js
  | .hear ex i j len rest body, p => LamX.tLam p.T (TTh p.K (He.ga p.K ex) i j len (fun a cls d => denS rest { p with E := E0, sp := fun _ => spE p.K p.mg p.T fun _ => .stuck, a := a, cls := cls, d := d }) wrL) (fun E => den body { p with E := E })
  | .isH C a, p => tCB (rIsHV p.K p.a p.cls p.d) (tCons (den a p) (tCons (tC (.ref (He.ga p.K C))) tNil))
  | .hvf f a, p => tHVf p.K p.a p.cls p.d f (den a p)
  | .at_ f cs a, p => tAt p.K p.sp f cs (den a p)
  | .me e m cs a as, p => tMe p.K p.sp (selE e p.E) m cs (den a p) (denA as p)
  | .mk e cn id na nk ix as ks, p => tMk p.K p.sp (selE e p.E) cn id na nk ix (denA as p) (denA ks p)
  | .isq b a, p => tCB (rIsi p.K) (tCons (den a p) (tCons (tC (b.v p.K)) tNil))
  | .isqT b bs a, p => tCB (rIsiT p.K) (tCons (den a p) (tCons (tTup (tQs p.K (b :: bs))) tNil))
  | .eqO ne cs a b, p => tOp (rEqA p.K p.sp ne cs) (den a p) (den b p)
  | .su e i cs as, p => tSu p.K p.sp (selE e p.E) i cs (denA as p)
  | .bm m a as, p => tBM p.K "list" m.r (den a p) (denA as p)
  | .bm0 m a, p => tBM0 p.K "list" m.r (den a p)
  | .get1 a b, p => tDGet1 (den a p) (den b p)
  | .get2 a b x, p => tDGet2 (den a p) (den b p) (den x p)
  | .sld a, p => den a p
def denA : Ta → Dn → TA
  | .nil, _ => tNil
  | .cons a as, p => tCons (den a p) (denA as p)
def denP : Tp → Dn → List (TE × TE)
  | .nil, _ => []
  | .cons k v ps, p => (den k p, den v p) :: denP ps p
def denT : Tt → Dn → TT
  | .test a, p => tTest (den a p)
  | .tr a, p => tTr p.K (den a p)
  | .and_ a b, p => tAnd (denT a p) (denT b p)
  | .or_ a b, p => tOr (denT a p) (denT b p)
  | .not_ a, p => tNot (denT a p)
  | .yes, _ => tYes
def denO : To → Dn → TO
  | .none, _ => tNoPart
  | .some a, p => tPart (den a p)
def denI : Ti → Dn → TI
  | .sq a, p => iSq p.K (den a p)
  | .rng1 as, p => iRng1 (denA as p)
  | .rng2 as, p => iRng2 (denA as p)
def denS : Ts → Dn → TS
  | .seq a b, p => tSeq (denS a p) (denS b p)
  | .asg i a, p => tAsg (den a p) (gName i)
  | .asgG is a, p => tAsg (den a p) (gTup p.K is.length (gsOf is))
  | .ret a, p => tRet (den a p)
  | .retN, _ => tRetN
  | .ifS t a b, p => tIfS (denT t p) (denS a p) (denS b p)
  | .for_ it g b, p => tFor (denI it p) (g.g p.K) (denS b p)
  | .while_ _ t b, p => tWhile (denT t p) (denS b p)
  | .next, _ => tNext
  | .brk, _ => tBreak
  | .cont, _ => tCont
  | .drop a, p => tDrop (den a p)
  | .rais cn f a, p => tRaiseS (He.ga p.K cn) f (fun cls d _ H => p.E cls d H) (tCons (den a p) tNil)
  | .par i j a b, p => tPar i j (tCons (den a p) (tCons (den b p) tNil))
  | .setF a f e, p => sFld p.K (den a p) (den e p) f
  | .augF a f o e, p => sFldAug p.K (den a p) (den e p) (o.r p.K) f
  | .setI a i e, p => tAsg (den e p) (gSub (den a p) (den i p) rSetX)
end
/-! ### evaluation -/
inductive Fl where
  | nx (Γ : List Sl)
  | rt (d : Dt)
  | bk (Γ : List Sl)
  | ct (Γ : List Sl)
structure Qc where
  f : Nat → List Dt → Ev Dt
  hd : Bool
  lam : Bool
  isa : Str → Str → Option Bool
  fld : Str → Str → Bool
  exm : Str → Str → Bool
  rai : Str → Bool
  kit : Cq → Cq → Option Bool := fun _ _ => none
  nf : Str → Cq → Option Bool := fun _ _ => none
  sf : Str → Str → Bool := fun _ _ => false
def setAll : List Nat → List Dt → List Sl → List Sl
  | i :: is, d :: ds, Γ => setAll is ds (Γ.set i (.da d))
  | _, _, Γ => Γ
def evG : Tg → Dt → List Sl → Option (List Sl)
  | .name i, d, Γ => some (Γ.set i (.da d))
  | .tup is, .tup ds, Γ => if ds.length = is.length then some (setAll is ds Γ) else none
  | _, _, _ => none
def varE (Γ : List Sl) (i : Nat) : Option Dt := match Γ[i]? with
  | some (.da d) => some d
  | _ => none
def slE : Dt → Option Int → Option Int → Option Dt
  | .lst ds, lo, hi => some (.lst (cutG ds lo hi))
  | .tup ds, lo, hi => some (.tup (cutG ds lo hi))
  | .str z, lo, hi => if szOk z.length then some (.str (cutS z lo hi)) else none
  | _, _, _ => none
def slN : Dt → Option Int → Option Int → Option Dt
  | .lst ds, lo, hi => some (.lst (cutG ds lo hi))
  | _, _, _ => none
def strsE : List Dt → Option (List Str)
  | [] => some []
  | .str b :: ds => (strsE ds).map (b :: ·)
  | _ => none
def strE : Dt → Option Str
  | .str z => some z
  | _ => none
def joinE (z : Str) : Dt → Option Dt
  | .lst ds => (strsE ds).bind fun ys => if (ys.map (·.length)).sum + ys.length * z.length ≤ 16777216 then some (.str (Txt.join z ys)) else none
  | .tup ds => (strsE ds).bind fun ys => if (ys.map (·.length)).sum + ys.length * z.length ≤ 16777216 then some (.str (Txt.join z ys)) else none
  | _ => none
def splitE (z : Str) : Dt → Option Dt
  | .str b => if (b.length == 0) = false ∧ szOk (z.length + 2) = true then some (.lst ((Txt.split z b).map Dt.str)) else none
  | _ => none
def rOk (j : Int) : Bool := decide (-(2 ^ 62) ≤ j) && decide (j < 2 ^ 62)
theorem rOk_ok {j : Int} (h : rOk j = true) : -(2 ^ 62) ≤ j ∧ j < 2 ^ 62 := by
  unfold rOk at h
  rw [Bool.and_eq_true, decide_eq_true_eq, decide_eq_true_eq] at h
  exact h
theorem rOk_of {j : Int} (h0 : -16777216 ≤ j) (h : j ≤ 16777216) : rOk j = true := by
  unfold rOk
  rw [Bool.and_eq_true, decide_eq_true_eq, decide_eq_true_eq]
  omega
def isiE (T : Tn) (d : Dt) : Option Dt := match T with
  | .none => none
  | T => d.tn.map fun t => .bl (t.sub T)
/-- the walked cell is still as it was -/
def chkE : Option (Nat × Dt) → Ev Unit
  | none => .pure ()
  | some (i, d) => .ask fun s => match s[i]? with
    | some d' => if d'.same d = true then some () else none
    | none => none
def evLc (src : Option (Nat × Dt)) (b : Dt → Ev (Option Dt)) : List Dt → List Dt → Ev (List Dt)
  | [], acc => (chkE src).bind fun _ => .pure acc
  | d :: ds, acc => (chkE src).bind fun _ => (b d).bind fun o => evLc src b ds (acc ++ o.toList)
def evFor (src : Option (Nat × Dt)) (b : Dt → List Sl → Ev Fl) : List Dt → List Sl → Ev Fl
  | [], Γ => (chkE src).bind fun _ => .pure (.nx Γ)
  | d :: ds, Γ => (chkE src).bind fun _ => (b d Γ).bind fun r => match r with
    | .nx Γ' => evFor src b ds Γ'
    | .ct Γ' => evFor src b ds Γ'
    | .bk Γ' => .pure (.nx Γ')
    | .rt e => .pure (.rt e)
def evWh (t : List Sl → Ev Bool) (b : List Sl → Ev Fl) : Nat → List Sl → Ev Fl
  | 0, _ => .stuck
  | k + 1, Γ => (t Γ).bind fun c => if c = true then (b Γ).bind fun r => match r with
    | .nx Γ' => evWh t b k Γ'
    | .ct Γ' => evWh t b k Γ'
    | .bk Γ' => .pure (.nx Γ')
    | .rt e => .pure (.rt e) else .pure (.nx Γ)
/-- what a body hands back -/
def retE : Fl → Ev Dt
  | .nx _ => .pure .non
  | .rt d => .pure d
  | _ => .stuck
def retH : Fl → Ev Dt
  | .rt d => if d.ne then .pure d else .stuck
  | _ => .stuck
mutual
def Dt.nrf : Dt → Bool
  | .rf _ => false
  | .lst ds => Dt.nrfs ds
  | .tup ds => Dt.nrfs ds
  | .dic _ ds => Dt.nrfs ds
  | .obj _ _ ds => Dt.nrfs ds
  | .err _ _ ds => Dt.nrfs ds
  | _ => true
def Dt.nrfs : List Dt → Bool
  | [] => true
  | d :: ds => d.nrf && Dt.nrfs ds
end
/-- without the cells -/
def hideE (f : Ev Dt) : Ev Dt := fun l => match f (l.1, []) with
  | some (r, l') => (match l'.2 with
    | [] => some (r, (l'.1, l.2))
    | _ :: _ => none)
  | none => none
def drE (d : Dt) : Ev Dt := .ask fun s => some (dr s d)
def atE (rai : Str → Bool) (F : Nat → List Dt → Ev Dt) (f : Str) (cs : List (Str × Atk)) (d0 : Dt) : Dt → Ev Dt
  | .obj cn ns ds => if rai cn = true then (match cs.lookup cn with
    | some .fld => .of ((ns.zip ds).lookup f)
    | some (.int i) => if ns.contains f = false then .pure (.int i) else .stuck
    | some (.str z) => if ns.contains f = false then .pure (.str z) else .stuck
    | some (.prop id) => (F id [d0]).calm
    | none => .stuck) else .stuck
  | _ => .stuck
/-- e.m(..) -/
def meE (rai : Str → Bool) (F : Nat → List Dt → Ev Dt) (e : Bool) (f : Str) (cs : List (Str × Nat)) (fl : Ev (List Dt)) (d0 : Dt) : Dt → Ev Dt
  | .obj cn ns ds => if rai cn = true ∧ ns.contains f = false then (match cs.lookup cn with
    | some id => fl.bind fun es => selF e (F id (d0 :: es))
    | none => .stuck) else .stuck
  | _ => .stuck
/-- C(..) -/
def mkE (F : Nat → List Dt → Ev Dt) (e : Bool) (cn : Str) (id : Nat) (es : List Dt) : Ev Dt := (Ev.new (.obj cn [] [])).bind fun r => (selF e (F id (r :: es))).bind fun d => match d with
  | .non => .pure r
  | _ => .stuck
def xorE (ne : Bool) (g : Ev Dt) : Ev Dt := g.calm.bind fun v => match v with
  | .bl r => .pure (.bl (Bool.xor ne r))
  | _ => .stuck
/-- d' and e': the values d and e, their cells opened -/
def eqOE (rai : Str → Bool) (F : Nat → List Dt → Ev Dt) (nf : Str → Cq → Option Bool) (ne : Bool) (cs : List (Str × Nat)) (d e d' e' : Dt) : Ev Dt := match d' with
  | .obj cn _ _ => match e'.cq.bind (nf cn) with
    | some false => match cs.lookup cn with
      | some id => xorE ne (F id [d, e])
      | none => .stuck
    | some true => match e' with
      | .obj cn' _ _ => if rai cn' = true then (match cs.lookup cn' with
        | some id => xorE ne (F id [e, d])
        | none => .stuck) else .stuck
      | _ => .stuck
    | none => .stuck
  | _ => .stuck
def isO (rai : Str → Bool) : Dt → Bool
  | .obj cn _ _ => rai cn
  | _ => false
def eqAE (rai : Str → Bool) (F : Nat → List Dt → Ev Dt) (nf : Str → Cq → Option Bool) (ne : Bool) (cs : List (Str × Nat)) (d e d' e' : Dt) : Ev Dt := if isO rai d' = true then eqOE rai F nf ne cs d e d' e' else .of ((eqE d' e').map fun b => .bl (Bool.xor ne b))
/-- super().m(..) -/
def suE (rai : Str → Bool) (F : Nat → List Dt → Ev Dt) (e : Bool) (cs : List (Str × Nat)) (fl : Ev (List Dt)) (d0 : Dt) : Dt → Ev Dt
  | .obj cn _ _ => if rai cn = true then (match cs.lookup cn with
    | some id => fl.bind fun es => selF e (F id (d0 :: es))
    | none => .stuck) else .stuck
  | _ => .stuck
/-- the cell of a list -/
def Lm.ev (m : Lm) (s : List Dt) (ds es : List Dt) : Option (Dt × List Dt) := match m, es with
  | .append, [e] => if szLt ds.length then some (.non, ds ++ [e]) else none
  | .pop, [] => (ds[ds.length - 1]?).map fun d => (d, ds.dropLast)
  | .popAt, [.int j] => if decide (-(2 ^ 63) ≤ j) && decide (j < 2 ^ 63) then (seqIndex? j ds.length).bind fun k => (ds[k]?).map fun d => (d, ds.eraseIdx k) else none
  | .extend, [e] => (match dr s e with
    | .lst xs => if szOk (ds.length + xs.length) then some (.non, ds ++ xs) else none
    | _ => none)
  | .insert, [.int j, e] => if szLt ds.length && (decide (0 ≤ j) && decide (j < 2 ^ 63)) then some (.non, ds.take j.toNat ++ [e] ++ ds.drop j.toNat) else none
  | .clear, [] => some (.non, [])
  | _, _ => none
def isLst (s : List Dt) : Dt → Option Nat
  | .rf i => (match s[i]? with
    | some (.lst _) => some i
    | _ => none)
  | _ => none
def bmE (m : Lm) (i : Nat) (es : List Dt) (s : List Dt) : Option (Dt × List Dt) := match s[i]? with
  | some (.lst ds) => (m.ev s ds es).map fun r => (r.1, s.set i (.lst r.2))
  | _ => none
def isDic (s : List Dt) (d : Dt) : Option Unit := match dr s d with
  | .dic _ _ => some ()
  | _ => none
def getE (d e x : Dt) (s : List Dt) : Option Dt := match dr s d with
  | .dic ks ds => (keyD e).map fun key => (getK key ks ds).getD x
  | _ => none
/-- a.f = e -/
def setFE (sf : Str → Bool) (f : Str) (a e : Dt) (s : List Dt) : Option (Unit × List Dt) := match a with
  | .rf i => (match s[i]? with
    | some (.obj cn ns ds) => if sf cn = true ∧ ns.length < 1000 then some ((), s.set i (.obj cn (putN f ns) (putD f e ns ds))) else none
    | _ => none)
  | _ => none
/-- the field ahead of a.f op= e -/
def augGet (sf : Str → Bool) (f : Str) (a : Dt) (s : List Dt) : Option (Str × Dt) := match a with
  | .rf i => (match s[i]? with
    | some (.obj cn ns ds) => if sf cn = true then ((ns.zip ds).lookup f).map fun d => (cn, d) else none
    | _ => none)
  | _ => none
/-- a[i] = e -/
def setIE (a i e : Dt) (s : List Dt) : Option (Unit × List Dt) := match a with
  | .rf j => (s[j]?).bind fun d0 => (setE d0 i e).map fun d => ((), s.set j d)
  | _ => none
mutual
def evE : Te → Qc → List Sl → Ev Dt
  | .var i, _, Γ => .of (varE Γ i)
  | .non, _, _ => .pure .non
  | .bl b, _, _ => .pure (.bl b)
  | .int i, _, _ => .pure (.int i)
  | .str x, _, _ => .pure (.str x)
  | .op o a b, q, Γ => (evE a q Γ).bind fun d => (evE b q Γ).bind fun e => .ask fun s => o.ev (dr s d) (dr s e)
  | .neg a, q, Γ => (evE a q Γ).bind fun d => match d with | .int i => .pure (.int (-i)) | _ => .stuck
  | .not_ a, q, Γ => (evE a q Γ).bind fun d => (Ev.ask fun s => truD (dr s d)).bind fun b => .pure (.bl (!b))
  | .and_ a b, q, Γ => (evE a q Γ).bind fun d => (Ev.ask fun s => truD (dr s d)).bind fun t => if t = true then evE b q Γ else .pure d
  | .or_ a b, q, Γ => (evE a q Γ).bind fun d => (Ev.ask fun s => truD (dr s d)).bind fun t => if t = true then .pure d else evE b q Γ
  | .ifx t a b, q, Γ => (evT t q Γ).bind fun t => if t = true then evE a q Γ else evE b q Γ
  | .lst as, q, Γ => (evA as q Γ).bind fun ds => if szOk ds.length = true then .pure (.lst ds) else .stuck
  | .tup as, q, Γ => (evA as q Γ).bind fun ds => if szOk ds.length = true then .pure (.tup ds) else .stuck
  | .dnew, _, _ => .pure (.dic [] [])
  | .disp ps, q, Γ => (evP ps q Γ).bind fun kd => if kd.1.Nodup ∧ kd.1.length ≤ 15 then .pure (.dic kd.1 kd.2) else .stuck
  | .nw a, q, Γ => (evN a q Γ).bind Ev.new
  | .sl a lo hi, q, Γ => (evE a q Γ).bind fun d => (evO lo q Γ).bind fun lo => (evO hi q Γ).bind fun hi => .ask fun s => slE (dr s d) lo hi
  | .rev a, q, Γ => (evE a q Γ).bind fun d => .ask fun s => revE (dr s d)
  | .chain o p a b c, q, Γ => (evE a q Γ).bind fun x => (evE b q Γ).bind fun y => (Ev.ask fun s => o.ev (dr s x) (dr s y)).bind fun r => match r with
    | .bl t => if t = true then (evE c q Γ).bind fun z => .ask fun s => p.ev (dr s y) (dr s z) else .pure (.bl false)
    | _ => .stuck
  | .call e f as, q, Γ => (evA as q Γ).bind fun ds => selF e (q.f f ds)
  | .callK e f na nk as ks, q, Γ => (evA as q Γ).bind fun ds => (evA ks q Γ).bind fun es => if ds.length = na ∧ es.length = nk then selF e (q.f f (ds ++ es)) else .stuck
  | .callP e f na nk ix as ks, q, Γ => (evA as q Γ).bind fun ds => (evA ks q Γ).bind fun es => if ds.length = na ∧ es.length = nk then selF e (q.f f (gPm ix ds es)) else .stuck
  | .blt b as, q, Γ => (evA as q Γ).bind fun ds => .ask fun s => b.ev (ds.map (dr s))
  | .isi T a, q, Γ => (evE a q Γ).bind fun d => .ask fun s => isiE T (dr s d)
  | .isiTL a, q, Γ => (evE a q Γ).bind fun d => .ask fun s => (dr s d).tn.map fun t => .bl (t.sub .tuple || t.sub .list)
  | .join a b, q, Γ => (evE a q Γ).bind fun d => (Ev.of (strE d)).bind fun z => (evE b q Γ).bind fun e => .ask fun s => joinE z (dr s e)
  | .split a b, q, Γ => (evE a q Γ).bind fun d => (Ev.of (strE d)).bind fun z => (evE b q Γ).bind fun e => .of (splitE z e)
  | .lc it g tt el, q, Γ => (evI it q Γ).bind fun ds => if szOk ds.1.length = true then (evLc ds.2 (fun d => (Ev.of (evG g d (wipeG Γ g.js))).bind fun Γ2 => (evT tt q Γ2).bind fun b => if b = true then (evE el q Γ2).bind fun e => .pure (some e) else .pure none) ds.1 []).bind fun es => .pure (.lst es) else .stuck
  | .hear ex i j len rest body, q, Γ => if q.lam = true ∧ i ≠ j ∧ j < len then (evE body q Γ).catch_ (fun v => .pure (.lst [v])) (fun cn es => if q.exm cn ex = true ∧ Dt.nrfs (es.map (·.2)) = true then hideE (((evS rest { q with hd := true, lam := false, f := fun _ _ => .stuck } (gamE len j cn es)).bind retH).calm) else .stuck) else .stuck
  | .isH C a, q, Γ => if q.hd = true then (evE a q Γ).bind fun d => match d with
    | .err cn _ _ => (Ev.of (q.isa cn C)).bind fun b => .pure (.bl b)
    | _ => .stuck else .stuck
  | .hvf f a, q, Γ => if q.hd = true then (evE a q Γ).bind fun d => match d with
    | .err cn ns ds => if q.fld cn f = true then .of ((ns.zip ds).lookup f) else .stuck
    | _ => .stuck else .stuck
  | .at_ f cs a, q, Γ => (evE a q Γ).bind fun d => (drE d).bind (atE q.rai q.f f cs d)
  | .me e m cs a as, q, Γ => (evE a q Γ).bind fun d => (drE d).bind (meE q.rai q.f e m cs (evA as q Γ) d)
  | .mk e cn id na nk ix as ks, q, Γ => if q.rai cn = true then (evA as q Γ).bind fun ds => (evA ks q Γ).bind fun es => if ds.length = na ∧ es.length = nk then mkE q.f e cn id (gPm ix ds es) else .stuck else .stuck
  | .isq b a, q, Γ => (evE a q Γ).bind fun d => .ask fun s => ((dr s d).cq.bind fun a => q.kit a b).map Dt.bl
  | .isqT b bs a, q, Γ => if szOk (b :: bs).length = true then (evE a q Γ).bind fun d => .ask fun s => ((dr s d).cq.bind fun a => kitL (q.kit a) (b :: bs)).map Dt.bl else .stuck
  | .eqO ne cs a b, q, Γ => (evE a q Γ).bind fun d => (evE b q Γ).bind fun e => (drE d).bind fun d' => (drE e).bind fun e' => eqAE q.rai q.f q.nf ne cs d e d' e'
  | .su e i cs as, q, Γ => (Ev.of (varE Γ i)).bind fun d => (drE d).bind (suE q.rai q.f e cs (evA as q Γ) d)
  | .bm m a as, q, Γ => (evE a q Γ).bind fun d => (Ev.ask fun s => isLst s d).bind fun i => (evA as q Γ).bind fun es => .upd (bmE m i es)
  | .bm0 m a, q, Γ => (evE a q Γ).bind fun d => (Ev.ask fun s => isLst s d).bind fun i => .upd (bmE m i [])
  | .get1 a b, q, Γ => (evE a q Γ).bind fun d => (Ev.ask fun s => isDic s d).bind fun _ => (evE b q Γ).bind fun e => .ask (getE d e .non)
  | .get2 a b x, q, Γ => (evE a q Γ).bind fun d => (Ev.ask fun s => isDic s d).bind fun _ => (evE b q Γ).bind fun e => (evE x q Γ).bind fun x => .ask (getE d e x)
  | .sld a, q, Γ => sealE (evE a q Γ)
/-- what makes a new object -/
def evN : Te → Qc → List Sl → Ev Dt
  | .op o a b, q, Γ => (evE a q Γ).bind fun d => (evE b q Γ).bind fun e => .ask fun s => o.evN (dr s d) (dr s e)
  | .lst as, q, Γ => (evA as q Γ).bind fun ds => if szOk ds.length = true then .pure (.lst ds) else .stuck
  | .dnew, _, _ => .pure (.dic [] [])
  | .disp ps, q, Γ => (evP ps q Γ).bind fun kd => if kd.1.Nodup ∧ kd.1.length ≤ 15 then .pure (.dic kd.1 kd.2) else .stuck
  | .sl a lo hi, q, Γ => (evE a q Γ).bind fun d => (evO lo q Γ).bind fun lo => (evO hi q Γ).bind fun hi => .ask fun s => slN (dr s d) lo hi
  | .blt b as, q, Γ => (evA as q Γ).bind fun ds => .ask fun s => b.evN (ds.map (dr s))
  | .split a b, q, Γ => (evE a q Γ).bind fun d => (Ev.of (strE d)).bind fun z => (evE b q Γ).bind fun e => .of (splitE z e)
  | .lc it g tt el, q, Γ => (evI it q Γ).bind fun ds => if szOk ds.1.length = true then (evLc ds.2 (fun d => (Ev.of (evG g d (wipeG Γ g.js))).bind fun Γ2 => (evT tt q Γ2).bind fun b => if b = true then (evE el q Γ2).bind fun e => .pure (some e) else .pure none) ds.1 []).bind fun es => .pure (.lst es) else .stuck
  | _, _, _ => .stuck
def evA : Ta → Qc → List Sl → Ev (List Dt)
  | .nil, _, _ => .pure []
  | .cons a as, q, Γ => (evE a q Γ).bind fun d => (evA as q Γ).bind fun ds => .pure (d :: ds)
def evP : Tp → Qc → List Sl → Ev (List Key × List Dt)
  | .nil, _, _ => .pure ([], [])
  | .cons k v ps, q, Γ => (evE k q Γ).bind fun d => (Ev.of (keyD d)).bind fun key => (evE v q Γ).bind fun e => (evP ps q Γ).bind fun kd => .pure (key :: kd.1, e :: kd.2)
def evT : Tt → Qc → List Sl → Ev Bool
  | .test a, q, Γ => (evE a q Γ).bind fun d => match d with | .bl b => .pure b | _ => .stuck
  | .tr a, q, Γ => (evE a q Γ).bind fun d => .ask fun s => truD (dr s d)
  | .and_ a b, q, Γ => (evT a q Γ).bind fun t => if t = true then evT b q Γ else .pure false
  | .or_ a b, q, Γ => (evT a q Γ).bind fun t => if t = true then .pure true else evT b q Γ
  | .not_ a, q, Γ => (evT a q Γ).bind fun t => .pure (!t)
  | .yes, _, _ => .pure true
def evO : To → Qc → List Sl → Ev (Option Int)
  | .none, _, _ => .pure none
  | .some a, q, Γ => (evE a q Γ).bind fun d => match d with | .int i => .pure (some i) | _ => .stuck
def evI : Ti → Qc → List Sl → Ev (List Dt × Option (Nat × Dt))
  | .sq a, q, Γ => (evE a q Γ).bind fun d => .ask fun s => seqS s d
  | .rng1 as, q, Γ => (evA as q Γ).bind fun ds => match ds with
    | [.int j] => if rOk j = true then .pure (upTo 0 j.toNat, none) else .stuck
    | _ => .stuck
  | .rng2 as, q, Γ => (evA as q Γ).bind fun ds => match ds with
    | [.int i, .int j] => if rOk i = true ∧ rOk j = true then .pure (upTo i (j - i).toNat, none) else .stuck
    | _ => .stuck
def evS : Ts → Qc → List Sl → Ev Fl
  | .seq a b, q, Γ => (evS a q Γ).bind fun r => match r with | .nx Γ' => evS b q Γ' | r => .pure r
  | .asg i a, q, Γ => (evE a q Γ).bind fun d => .pure (.nx (Γ.set i (.da d)))
  | .asgG is a, q, Γ => (evE a q Γ).bind fun d => (Ev.of (evG (.tup is) d Γ)).bind fun Γ' => .pure (.nx Γ')
  | .ret a, q, Γ => (evE a q Γ).bind fun d => .pure (.rt d)
  | .retN, _, _ => .pure (.rt .non)
  | .ifS t a b, q, Γ => (evT t q Γ).bind fun t => if t = true then evS a q Γ else evS b q Γ
  | .for_ it g b, q, Γ => (evI it q Γ).bind fun ds => evFor ds.2 (fun d Γ' => (Ev.of (evG g d Γ')).bind fun Γ2 => evS b q Γ2) ds.1 Γ
  | .while_ fuel t b, q, Γ => evWh (fun Γ => evT t q Γ) (fun Γ => evS b q Γ) fuel Γ
  | .next, _, Γ => .pure (.nx Γ)
  | .brk, _, Γ => .pure (.bk Γ)
  | .cont, _, Γ => .pure (.ct Γ)
  | .drop a, q, Γ => (evE a q Γ).bind fun _ => .pure (.nx Γ)
  | .rais cn f a, q, Γ => if q.rai cn = true then (evE a q Γ).bind fun d => .rais cn [(f, d)] else .stuck
  | .par i j a b, q, Γ => (evE a q Γ).bind fun d => (evE b q Γ).bind fun e => .pure (.nx ((Γ.set i (.da d)).set j (.da e)))
  | .setF a f e, q, Γ => (evE e q Γ).bind fun d => (evE a q Γ).bind fun a => (Ev.upd (setFE (fun cn => q.sf cn f) f a d)).bind fun _ => .pure (.nx Γ)
  | .augF a f o e, q, Γ => (evE a q Γ).bind fun a => (Ev.ask (augGet (fun cn => q.sf cn f) f a)).bind fun d0 => (evE e q Γ).bind fun d => (Ev.ask fun s => o.ev (dr s d0.2) (dr s d)).bind fun z => (Ev.upd (setFE (fun cn => decide (cn = d0.1)) f a z)).bind fun _ => .pure (.nx Γ)
  | .setI a i e, q, Γ => (evE e q Γ).bind fun d => (evE a q Γ).bind fun a => (evE i q Γ).bind fun i => (Ev.upd (setIE a i d)).bind fun _ => .pure (.nx Γ)
end
end Pb
namespace Pb
open PySem PySem.Spec PyProof.Rows L2

/-! ### what is shown of each kind of term -/
def SE (c : Fc) (Γ : List Sl) (te : TE) (f : Ev Dt) : Prop := ∀ n, EOk c f n → We c Γ n te fun d m => Hit f n (.ok d) m
def SN (c : Fc) (Γ : List Sl) (te : TE) (f : Ev Dt) : Prop := ∀ n, EOk c f n → Wn c Γ n te fun d m => Hit f n (.ok d) m
def ST (c : Fc) (Γ : List Sl) (te : TT) (f : Ev Bool) : Prop := ∀ n, EOk c f n → Wt c Γ n te fun d m => Hit f n (.ok d) m
def SA (c : Fc) (Γ : List Sl) (te : TA) (f : Ev (List Dt)) : Prop := ∀ n, EOk c f n → Wa c Γ n te fun d m => Hit f n (.ok d) m
def SO (c : Fc) (Γ : List Sl) (te : TO) (f : Ev (Option Int)) : Prop := ∀ n, EOk c f n → Wo c Γ n te fun d m => Hit f n (.ok d) m
def SI (c : Fc) (Γ : List Sl) (te : TI) (f : Ev (List Dt × Option (Nat × Dt))) : Prop := ∀ n, EOk c f n → Wi c Γ n te fun d src m => Hit f n (.ok (d, src)) m
def SP (c : Fc) (Γ : List Sl) (te : List (TE × TE)) (f : Ev (List Key × List Dt)) : Prop := ∀ n, EOk c f n → Wp c Γ n te fun ks ds m => Hit f n (.ok (ks, ds)) m
def ndS (f : Ev Fl) (n : Cs) : Nd where
  nx := fun Γ m => Hit f n (.ok (.nx Γ)) m
  rt := fun d m => Hit f n (.ok (.rt d)) m
  bk := fun Γ m => Hit f n (.ok (.bk Γ)) m
  ct := fun Γ m => Hit f n (.ok (.ct Γ)) m
def SW (c : Fc) (Γ : List Sl) (ts : TS) (f : Ev Fl) : Prop := ∀ n, EOk c f n → Ws c Γ n ts (ndS f n)
section
variable {c : Fc} {Γ : List Sl} {ta tb tc tx : TE} {tl tk : TA} {tt tu : TT} {fa fb fc fx : Ev Dt} {fl fk : Ev (List Dt)} {ft fu : Ev Bool}
theorem se_pure {te : TE} {d : Dt} (h : ∀ n k, k d n → We c Γ n te k) : SE c Γ te (.pure d) := fun n ok => h n _ hit_pure
theorem se_var {i : Nat} : SE c Γ (tVar i) (.of (varE Γ i)) := fun n ok => by
  obtain ⟨d, e⟩ := ok.of
  refine w_var (d := d) ?_ (hit_of e)
  unfold varE at e
  split at e
  · cases e; assumption
  · cases e
theorem se_op {o : O2} (ha : SE c Γ ta fa) (hb : SE c Γ tb fb) : SE c Γ (tOp (o.r c.K) ta tb) (fa.bind fun d => fb.bind fun e => .ask fun s => o.ev (dr s d) (dr s e)) := fun n ok =>
  w_op ((ha n ok.bindL).mono fun d n1 h1 => (hb n1 (ok.bindR h1).bindL).mono fun e n2 h2 => by
    obtain ⟨x, ex⟩ := ((ok.bindR h1).bindR h2).ask
    exact O2.sound ex (h1.bind (h2.bind (hit_ask ex))))
theorem sn_op {o : O2} (ha : SE c Γ ta fa) (hb : SE c Γ tb fb) : SN c Γ (tOp (o.r c.K) ta tb) (fa.bind fun d => fb.bind fun e => .ask fun s => o.evN (dr s d) (dr s e)) := fun n ok =>
  wn_op ((ha n ok.bindL).mono fun d n1 h1 => (hb n1 (ok.bindR h1).bindL).mono fun e n2 h2 => by
    obtain ⟨x, ex⟩ := ((ok.bindR h1).bindR h2).ask
    exact O2.soundN ex (h1.bind (h2.bind (hit_ask ex))))
theorem se_neg (ha : SE c Γ ta fa) : SE c Γ (tUn (rU fun i => .int (-i)) ta) (fa.bind fun d => match d with | .int i => .pure (.int (-i)) | _ => .stuck) := fun n ok =>
  w_un ((ha n ok.bindL).mono fun d n1 h1 => by
    have h := ok.bindR h1
    split at h
    · rename_i i
      exact r1_lift (d1 := .int i) (x := .int (-i)) (fun y => r_neg rfl) rfl (h1.bind hit_pure)
    · exact h.stuck.elim)
theorem se_not (ha : SE c Γ ta fa) : SE c Γ (tNotT c.K ta) (fa.bind fun d => (Ev.ask fun s => truD (dr s d)).bind fun b => .pure (.bl (!b))) := fun n ok =>
  w_notT ((ha n ok.bindL).mono fun d n1 h1 => by
    obtain ⟨b, e⟩ := (ok.bindR h1).bindL.ask
    exact ⟨b, e, h1.bind ((hit_ask e).bind hit_pure)⟩)
theorem se_and (ha : SE c Γ ta fa) (hb : SE c Γ tb fb) : SE c Γ (tAndT c.K ta tb) (fa.bind fun d => (Ev.ask fun s => truD (dr s d)).bind fun t => if t = true then fb else .pure d) := fun n ok =>
  w_andT ((ha n ok.bindL).mono fun d n1 h1 => by
    obtain ⟨b, e⟩ := (ok.bindR h1).bindL.ask
    refine ⟨b, e, ite_b (fun hb' => ?_) fun hb' => ?_⟩
    · have h2 := (ok.bindR h1).bindR (hit_ask e)
      rw [if_pos hb'] at h2
      exact (hb n1 h2).mono fun d m q => h1.bind ((hit_ask e).bind (hit_if hb' q))
    · exact h1.bind ((hit_ask e).bind (hit_else (by rw [hb']; decide) hit_pure)))
theorem se_or (ha : SE c Γ ta fa) (hb : SE c Γ tb fb) : SE c Γ (tOrT c.K ta tb) (fa.bind fun d => (Ev.ask fun s => truD (dr s d)).bind fun t => if t = true then .pure d else fb) := fun n ok =>
  w_orT ((ha n ok.bindL).mono fun d n1 h1 => by
    obtain ⟨b, e⟩ := (ok.bindR h1).bindL.ask
    refine ⟨b, e, ite_b (fun hb' => ?_) fun hb' => ?_⟩
    · exact h1.bind ((hit_ask e).bind (hit_if hb' hit_pure))
    · have h2 := (ok.bindR h1).bindR (hit_ask e)
      rw [if_neg (by rw [hb']; decide)] at h2
      exact (hb n1 h2).mono fun d m q => h1.bind ((hit_ask e).bind (hit_else (by rw [hb']; decide) q)))
theorem se_ifx (ht : ST c Γ tt ft) (ha : SE c Γ ta fa) (hb : SE c Γ tb fb) : SE c Γ (tIf tt ta tb) (ft.bind fun t => if t = true then fa else fb) := fun n ok =>
  w_if ((ht n ok.bindL).mono fun b n1 h1 => by
    have h2 := ok.bindR h1
    refine ite_b (fun hb' => ?_) fun hb' => ?_
    · rw [if_pos hb'] at h2
      exact (ha n1 h2).mono fun d m q => h1.bind (hit_if hb' q)
    · rw [if_neg (by rw [hb']; decide)] at h2
      exact (hb n1 h2).mono fun d m q => h1.bind (hit_else (by rw [hb']; decide) q))
theorem sn_lst (ha : SA c Γ tl fl) : SN c Γ (tLst tl) (fl.bind fun ds => if szOk ds.length = true then .pure (.lst ds) else .stuck) := fun n ok =>
  wn_lst ((ha n ok.bindL).mono fun ds n1 h1 => by
    obtain ⟨hz, _⟩ := (ok.bindR h1).pos
    exact ⟨hz, h1.bind (hit_if hz hit_pure)⟩)
theorem se_tup (ha : SA c Γ tl fl) : SE c Γ (tTup tl) (fl.bind fun ds => if szOk ds.length = true then .pure (.tup ds) else .stuck) := fun n ok =>
  w_tup ((ha n ok.bindL).mono fun ds n1 h1 => by
    obtain ⟨hz, _⟩ := (ok.bindR h1).pos
    exact ⟨hz, h1.bind (hit_if hz hit_pure)⟩)
theorem sn_dnew : SN c Γ tDNewK (.pure (.dic [] [])) := fun n ok => wn_dnew hit_pure
theorem sn_disp {trs : List (TE × TE)} {fp : Ev (List Key × List Dt)} (h : SP c Γ trs fp) : SN c Γ (tDisp trs) (fp.bind fun kd => if kd.1.Nodup ∧ kd.1.length ≤ 15 then .pure (.dic kd.1 kd.2) else .stuck) := fun n ok =>
  wn_disp ((h n ok.bindL).mono fun ks ds m h1 => by
    obtain ⟨hz, _⟩ := (ok.bindR h1).pos
    exact ⟨hz.1, hz.2, h1.bind (hit_if hz hit_pure)⟩)
theorem SN.tree {te : TE} {f : Ev Dt} (h : SN c Γ te f) : SE c Γ te f := fun n ok => (h n ok).tree
/-- a new cell -/
theorem se_nw {te : TE} {f : Ev Dt} (h : SN c Γ te f) : SE c Γ te (f.bind Ev.new) := fun n ok =>
  Wn.cell ((h n ok.bindL).mono fun d m q => q.bind hit_new)
theorem slE_ok {n : Cs} {k : Dt → Prop} {d x : Dt} {lo hi : Option Int} (h : slE (dr n.s d) lo hi = some x) (q : k x) : RSV c n (rSl c.K) d lo hi k := by
  generalize e : dr n.s d = d' at h
  unfold slE at h
  split at h
  · cases h; exact (vs_lst e q).tree
  · cases h; exact vs_tup e q
  · split at h
    · rename_i z _ hz
      cases h
      cases d with
      | rf i =>
        intro y H x L hx Q hQ
        have v := L.dv hx
        rw [e] at v
        cases v
        cases hx
        rename_i a1 a2
        cases a1
      | str z' =>
        cases e
        exact vs_str hz q
      | _ => cases e
    · cases h
  · cases h
theorem se_sl {to th : TO} {fo fh : Ev (Option Int)} (ha : SE c Γ ta fa) (hl : SO c Γ to fo) (hh : SO c Γ th fh) : SE c Γ (tSl (rSl c.K) ta to th) (fa.bind fun d => fo.bind fun lo => fh.bind fun hi => .ask fun s => slE (dr s d) lo hi) := fun n ok =>
  w_sl ((ha n ok.bindL).mono fun d n1 h1 => (hl n1 (ok.bindR h1).bindL).mono fun lo n2 h2 => (hh n2 ((ok.bindR h1).bindR h2).bindL).mono fun hi n3 h3 => by
    obtain ⟨x, ex⟩ := (((ok.bindR h1).bindR h2).bindR h3).ask
    exact slE_ok ex (h1.bind (h2.bind (h3.bind (hit_ask ex)))))
theorem sn_sl {to th : TO} {fo fh : Ev (Option Int)} (ha : SE c Γ ta fa) (hl : SO c Γ to fo) (hh : SO c Γ th fh) : SN c Γ (tSl (rSl c.K) ta to th) (fa.bind fun d => fo.bind fun lo => fh.bind fun hi => .ask fun s => slN (dr s d) lo hi) := fun n ok =>
  wn_sl ((ha n ok.bindL).mono fun d n1 h1 => (hl n1 (ok.bindR h1).bindL).mono fun lo n2 h2 => (hh n2 ((ok.bindR h1).bindR h2).bindL).mono fun hi n3 h3 => by
    obtain ⟨x, ex⟩ := (((ok.bindR h1).bindR h2).bindR h3).ask
    have ex0 := ex
    generalize e : dr n3.s d = d' at ex
    unfold slN at ex
    split at ex
    · cases ex
      exact vs_lst e (h1.bind (h2.bind (h3.bind (hit_ask ex0))))
    · cases ex)
theorem w_revX {n : Cs} {k : Kd} (h : We c Γ n ta fun d m => ∃ x, revE (dr m.s d) = some x ∧ k x m) : We c Γ n (tRev c.K ta) k := by
  intro y ρ σ H S Q hQ
  refine h y ρ σ H S _ fun m1 x H1 d1 n1 S1 x1 h1 k1 => ?_
  obtain ⟨z, e, k1⟩ := k1
  have v1 := S1.lay.dv h1
  generalize e1 : dr n1.s d1 = d' at e v1
  unfold revE at e
  split at e
  · cases e
    obtain ⟨p, vs, rfl, h3, h4⟩ := v1.isL
    refine .inl ⟨_, _, rfl, SqL.of h3, fun p hp => ?_⟩
    have sm := same_new (o := .lst vs.reverse) hp
    exact hQ m1 _ _ _ n1 (S1.same sm) (stp2 x1 (Sx.same sm) (S1.same sm)) (nav_da (c := c) (d := .lst _) S1.lay hp rfl rfl rfl h4.reverse) k1
  · cases e
    obtain ⟨p, vs, rfl, h3, h4⟩ := v1.isT
    refine .inr ⟨_, _, rfl, h3.sq, fun p hp => ?_⟩
    have sm := same_new (o := .tup vs.reverse) hp
    exact hQ m1 _ _ _ n1 (S1.same sm) (stp2 x1 (Sx.same sm) (S1.same sm)) (Da.newT S1.lay.live hp h4.reverse) k1
  · cases e
theorem se_rev (ha : SE c Γ ta fa) : SE c Γ (tRev c.K ta) (fa.bind fun d => .ask fun s => revE (dr s d)) := fun n ok =>
  w_revX ((ha n ok.bindL).mono fun d n1 h1 => by
    obtain ⟨x, ex⟩ := (ok.bindR h1).ask
    exact ⟨x, ex, h1.bind (hit_ask ex)⟩)
theorem se_chain {o p : O2} (ha : SE c Γ ta fa) (hb : SE c Γ tb fb) (hc : SE c Γ tc fc) : SE c Γ (tChain (o.r c.K) (p.r c.K) ta tb tc) (fa.bind fun x => fb.bind fun y => (Ev.ask fun s => o.ev (dr s x) (dr s y)).bind fun r => match r with
    | .bl t => if t = true then fc.bind fun z => .ask fun s => p.ev (dr s y) (dr s z) else .pure (.bl false)
    | _ => .stuck) := fun n ok =>
  w_chain ((ha n ok.bindL).mono fun d n1 h1 => (hb n1 (ok.bindR h1).bindL).mono fun e n2 h2 => by
    have ok2 := (ok.bindR h1).bindR h2
    obtain ⟨x, ex⟩ := ok2.bindL.ask
    have hx : Hit (Ev.ask fun s => o.ev (dr s d) (dr s e)) n2 (.ok x) n2 := hit_ask ex
    have ok3 := ok2.bindR hx
    refine O2.sound ex ?_
    split at ok3
    · rename_i t
      refine ⟨t, rfl, ite_b (fun hb' => ?_) fun hb' => ?_⟩
      · rw [if_pos hb'] at ok3
        refine (hc n2 ok3.bindL).mono fun z n3 h3 => ?_
        obtain ⟨y, ey⟩ := (ok3.bindR h3).ask
        exact O2.sound ey (h1.bind (h2.bind (hx.bind (hit_if hb' (h3.bind (hit_ask ey))))))
      · exact h1.bind (h2.bind (hx.bind (hit_else (by rw [hb']; decide) hit_pure)))
    · exact ok3.stuck.elim)
/-! calls -/
theorem er_of {F : Nat → List Dt → Ev Dt} {g : Ev Dt} (h : c.er = none ∨ g = .stuck) {n : Cs} (ns : NS g n) : c.er = none := by
  rcases h with h | h
  · exact h
  · rw [h] at ns
    obtain ⟨l, hl⟩ := lens n.n
    obtain ⟨x, e⟩ := ns l hl
    cases e
theorem cal_of {e : Bool} {g : Ev Dt} {n : Cs} {k : Kd} (hF : c.er = none ∨ g = .stuck) (ok : EOk c (selF e g) n) (hk : ∀ d m, Hit (selF e g) n (.ok d) m → k d m) : Cal1 c (selE e c.E) g n k := by
  cases e with
  | true => exact ⟨er_of (F := fun _ _ => g) hF ok.1, ok.1, hk, fun cn es m h => ⟨ok.2 cn es m h, rfl⟩⟩
  | false =>
    obtain ⟨h1, h2⟩ := NS.calm (f := g) ok.1
    exact ⟨er_of (F := fun _ _ => g) hF h1, h1, fun d m q => hk d m q.calm, fun cn es m h => (h2 cn es m h).elim⟩
theorem rfd_call {F : List Dt → Ev Dt} {ds : List Dt} {e : Bool} {n : Cs} {k : Kd} (hF : c.er = none ∨ F ds = .stuck) (ok : EOk c (selF e (F ds)) n) (hk : ∀ d m, Hit (selF e (F ds)) n (.ok d) m → k d m) :
    RFD c (fun vs H Q => spE c.K c.mg c.T F vs H Q (selE e c.E)) ds n k := by
  cases e with
  | true => exact w_callE (er_of (F := fun _ _ => F ds) hF ok.1) ok.1 hk ok.2
  | false =>
    obtain ⟨h1, h2⟩ := NS.calm (f := F ds) ok.1
    exact w_callE0 (er_of (F := fun _ _ => F ds) hF h1) h1 (fun d m q => hk d m q.calm) h2
theorem se_call {F : List Dt → Ev Dt} {e : Bool} (hF : c.er = none ∨ ∀ ds, F ds = .stuck) (ha : SA c Γ tl fl) : SE c Γ (tCB (fun vs H Q => spE c.K c.mg c.T F vs H Q (selE e c.E)) tl) (fl.bind fun ds => selF e (F ds)) := fun n ok =>
  w_cf ((ha n ok.bindL).mono fun ds n1 h1 => rfd_call (hF.imp id fun z => z ds) (ok.bindR h1) fun d m q => h1.bind q)
theorem se_callK {F : List Dt → Ev Dt} {e : Bool} {na nk : Nat} (hF : c.er = none ∨ ∀ ds, F ds = .stuck) (ha : SA c Γ tl fl) (hk : SA c Γ tk fk) : SE c Γ (tCK gApp na nk (fun vs H Q => spE c.K c.mg c.T F vs H Q (selE e c.E)) tl tk)
    (fl.bind fun ds => fk.bind fun es => if ds.length = na ∧ es.length = nk then selF e (F (ds ++ es)) else .stuck) := fun n ok =>
  w_ck (g := gApp) (fun h1 h2 => h1.append h2) ((ha n ok.bindL).mono fun ds n1 h1 => (hk n1 (ok.bindR h1).bindL).mono fun es n2 h2 => by
    obtain ⟨hz, ok2⟩ := ((ok.bindR h1).bindR h2).pos
    exact ⟨hz, rfd_call (hF.imp id fun z => z _) ok2 fun d m q => h1.bind (h2.bind (hit_if hz q))⟩)
theorem se_callP {F : List Dt → Ev Dt} {e : Bool} {na nk : Nat} {ix : List Nat} (hF : c.er = none ∨ ∀ ds, F ds = .stuck) (ha : SA c Γ tl fl) (hk : SA c Γ tk fk) : SE c Γ (tCK (gPm ix) na nk (fun vs H Q => spE c.K c.mg c.T F vs H Q (selE e c.E)) tl tk)
    (fl.bind fun ds => fk.bind fun es => if ds.length = na ∧ es.length = nk then selF e (F (gPm ix ds es)) else .stuck) := fun n ok =>
  w_ck (g := gPm ix) (fun h1 h2 => h1.append (da_pick h2 ix)) ((ha n ok.bindL).mono fun ds n1 h1 => (hk n1 (ok.bindR h1).bindL).mono fun es n2 h2 => by
    obtain ⟨hz, ok2⟩ := ((ok.bindR h1).bindR h2).pos
    exact ⟨hz, rfd_call (hF.imp id fun z => z _) ok2 fun d m q => h1.bind (h2.bind (hit_if hz q))⟩)
theorem se_blt (hs : ∃ o, c.K.lookup sysModules = some o) {b : Bl} (ha : SA c Γ tl fl) : SE c Γ (tCB (b.r c.K) tl) (fl.bind fun ds => .ask fun s => b.ev (ds.map (dr s))) := fun n ok =>
  w_cb ((ha n ok.bindL).mono fun ds n1 h1 => by
    obtain ⟨x, ex⟩ := (ok.bindR h1).ask
    exact Bl.sound hs ex (h1.bind (hit_ask ex)))
theorem sn_blt {b : Bl} (ha : SA c Γ tl fl) : SN c Γ (tCB (b.r c.K) tl) (fl.bind fun ds => .ask fun s => b.evN (ds.map (dr s))) := fun n ok =>
  wn_cb ((ha n ok.bindL).mono fun ds n1 h1 => by
    obtain ⟨x, ex⟩ := (ok.bindR h1).ask
    exact Bl.soundN ex (h1.bind (hit_ask ex)))
theorem se_isi {T : Tn} (ha : SE c Γ ta fa) : SE c Γ (tCB (rIsi c.K) (tCons ta (tCons (tC (.ty T.s)) tNil))) (fa.bind fun d => .ask fun s => isiE T (dr s d)) := fun n ok => by
  have key : ∀ d n1, Hit fa n (.ok d) n1 → T ≠ .none ∧ ∃ t, (dr n1.s d).tn = some t ∧ Hit (fa.bind fun d => .ask fun s => isiE T (dr s d)) n (.ok (.bl (t.sub T))) n1 := fun d n1 h1 => by
    obtain ⟨x, ex⟩ := (ok.bindR h1).ask
    have ex0 := ex
    unfold isiE at ex
    split at ex
    · cases ex
    · rename_i hT
      obtain ⟨t, ht, rfl⟩ := Option.map_eq_some_iff.mp ex
      exact ⟨hT, t, ht, h1.bind (hit_ask ex0)⟩
  by_cases hT : T = .none
  · subst hT
    intro y ρ σ H S Q hQ
    exact ha n ok.bindL y ρ σ H S _ fun m v H1 d1 n1 S1 x1 h1 k1 => absurd rfl (key d1 n1 k1).1
  · exact w_isi T hT ((ha n ok.bindL).mono fun d n1 h1 => (key d n1 h1).2)
theorem se_isiTL (ha : SE c Γ ta fa) : SE c Γ (tCB (rIsiT c.K) (tCons ta (tCons (tTup (tCons (tC (.ty "tuple")) (tCons (tC (.ty "list")) tNil))) tNil))) (fa.bind fun d => .ask fun s => (dr s d).tn.map fun t => .bl (t.sub .tuple || t.sub .list)) := fun n ok =>
  w_isiTL ((ha n ok.bindL).mono fun d n1 h1 => by
    obtain ⟨x, ex⟩ := (ok.bindR h1).ask
    have ex0 := ex
    obtain ⟨t, ht, rfl⟩ := Option.map_eq_some_iff.mp ex
    exact ⟨t, ht, h1.bind (hit_ask ex0)⟩)
theorem strsE_ok : ∀ {ds : List Dt} {ys : List Str}, strsE ds = some ys → ds = ys.map Dt.str
  | [], _, h => by cases h; rfl
  | .str b :: ds, bs, h => by
    obtain ⟨cs, h1, rfl⟩ := Option.map_eq_some_iff.mp (show (strsE ds).map (b :: ·) = some bs from h)
    rw [strsE_ok h1]
    rfl
theorem strsE_map (bs : List Str) : strsE (bs.map Dt.str) = some bs := by
  induction bs with
  | nil => rfl
  | cons b bs ih =>
    show (strsE (bs.map Dt.str)).map (b :: ·) = _
    rw [ih]
    rfl
theorem strE_ok {d : Dt} {z : Str} (h : strE d = some z) : d = .str z := by
  cases d <;> cases h; rfl
theorem joinE_ok {z : Str} {d x : Dt} (h : joinE z d = some x) : ∃ ys : List Str, (d = .lst (ys.map Dt.str) ∨ d = .tup (ys.map Dt.str)) ∧ (ys.map (·.length)).sum + ys.length * z.length ≤ 16777216 ∧ x = .str (Txt.join z ys) := by
  unfold joinE at h
  split at h
  · obtain ⟨ys, ey, e1⟩ := Option.bind_eq_some_iff.mp h
    split at e1
    · cases e1
      exact ⟨ys, .inl (by rw [strsE_ok ey]), by assumption, rfl⟩
    · cases e1
  · obtain ⟨ys, ey, e1⟩ := Option.bind_eq_some_iff.mp h
    split at e1
    · cases e1
      exact ⟨ys, .inr (by rw [strsE_ok ey]), by assumption, rfl⟩
    · cases e1
  · cases h
theorem se_join (ha : SE c Γ ta fa) (hb : SE c Γ tb fb) : SE c Γ (tM1 (rJoin c.K) ta tb) (fa.bind fun d => (Ev.of (strE d)).bind fun z => fb.bind fun e => .ask fun s => joinE z (dr s e)) := fun n ok =>
  w_m1 ((ha n ok.bindL).mono fun d n1 h1 => by
    have ok1 := ok.bindR h1
    obtain ⟨z, ez⟩ := ok1.bindL.of
    refine ⟨z, strE_ok ez, (hb n1 (ok1.bindR (hit_of ez)).bindL).mono fun e n2 h2 => ?_⟩
    obtain ⟨x, ex⟩ := ((ok1.bindR (hit_of ez)).bindR h2).ask
    obtain ⟨ys, hy, hz, rfl⟩ := joinE_ok ex
    exact vp_joinL hy hz (h1.bind ((hit_of ez).bind (h2.bind (hit_ask ex)))))
theorem sn_split (ha : SE c Γ ta fa) (hb : SE c Γ tb fb) : SN c Γ (tM1 rSplit ta tb) (fa.bind fun d => (Ev.of (strE d)).bind fun z => fb.bind fun e => .of (splitE z e)) := fun n ok =>
  wn_m1 ((ha n ok.bindL).mono fun d n1 h1 => by
    have ok1 := ok.bindR h1
    obtain ⟨z, ez⟩ := ok1.bindL.of
    refine ⟨z, strE_ok ez, (hb n1 (ok1.bindR (hit_of ez)).bindL).mono fun e n2 h2 => ?_⟩
    obtain ⟨x, ex⟩ := ((ok1.bindR (hit_of ez)).bindR h2).of
    have ex0 := ex
    unfold splitE at ex
    split at ex
    · split at ex
      · rename_i hz
        cases ex
        exact vp_split hz.1 hz.2 (h1.bind ((hit_of ez).bind (h2.bind (hit_of ex0))))
      · cases ex
    · cases ex)
theorem sa_nil : SA c Γ tNil (.pure []) := fun n ok => wa_nil hit_pure
theorem sa_cons (ha : SE c Γ ta fa) (hl : SA c Γ tl fl) : SA c Γ (tCons ta tl) (fa.bind fun d => fl.bind fun ds => .pure (d :: ds)) := fun n ok =>
  wa_cons ((ha n ok.bindL).mono fun d n1 h1 => (hl n1 (ok.bindR h1).bindL).mono fun ds n2 h2 => h1.bind (h2.bind hit_pure))
theorem sp_nil : SP c Γ [] (.pure ([], [])) := fun n ok => wp_nil hit_pure
theorem sp_cons {trs : List (TE × TE)} {fp : Ev (List Key × List Dt)} (ha : SE c Γ ta fa) (hb : SE c Γ tb fb) (h : SP c Γ trs fp) : SP c Γ ((ta, tb) :: trs) (fa.bind fun d => (Ev.of (keyD d)).bind fun key => fb.bind fun e => fp.bind fun kd => .pure (key :: kd.1, e :: kd.2)) := fun n ok =>
  wp_cons ((ha n ok.bindL).mono fun d n1 h1 => by
    have ok1 := ok.bindR h1
    obtain ⟨z, ez⟩ := ok1.bindL.of
    have ok2 := ok1.bindR (hit_of ez (n := n1))
    exact ⟨z, ez, (hb n1 ok2.bindL).mono fun e n2 h2 => (h n2 (ok2.bindR h2).bindL).mono fun ks ds m h3 => h1.bind ((hit_of ez).bind (h2.bind (h3.bind hit_pure)))⟩)
theorem st_test (ha : SE c Γ ta fa) : ST c Γ (tTest ta) (fa.bind fun d => match d with | .bl b => .pure b | _ => .stuck) := fun n ok =>
  wt_test ((ha n ok.bindL).mono fun d n1 h1 => by
    have h := ok.bindR h1
    split at h
    · exact ⟨_, rfl, h1.bind hit_pure⟩
    · exact h.stuck.elim)
theorem st_tr (ha : SE c Γ ta fa) : ST c Γ (tTr c.K ta) (fa.bind fun d => .ask fun s => truD (dr s d)) := fun n ok =>
  wt_tr ((ha n ok.bindL).mono fun d n1 h1 => by
    obtain ⟨b, e⟩ := (ok.bindR h1).ask
    exact ⟨b, e, h1.bind (hit_ask e)⟩)
theorem st_and (ha : ST c Γ tt ft) (hb : ST c Γ tu fu) : ST c Γ (tAnd tt tu) (ft.bind fun t => if t = true then fu else .pure false) := fun n ok =>
  wt_and ((ha n ok.bindL).mono fun b n1 h1 => by
    have h2 := ok.bindR h1
    refine ite_b (fun hb' => ?_) fun hb' => ?_
    · rw [if_pos hb'] at h2
      exact (hb n1 h2).mono fun d m q => h1.bind (hit_if hb' q)
    · exact h1.bind (hit_else (by rw [hb']; decide) hit_pure))
theorem st_or (ha : ST c Γ tt ft) (hb : ST c Γ tu fu) : ST c Γ (tOr tt tu) (ft.bind fun t => if t = true then .pure true else fu) := fun n ok =>
  wt_or ((ha n ok.bindL).mono fun b n1 h1 => by
    have h2 := ok.bindR h1
    refine ite_b (fun hb' => ?_) fun hb' => ?_
    · exact h1.bind (hit_if hb' hit_pure)
    · rw [if_neg (by rw [hb']; decide)] at h2
      exact (hb n1 h2).mono fun d m q => h1.bind (hit_else (by rw [hb']; decide) q))
theorem st_not (ha : ST c Γ tt ft) : ST c Γ (tNot tt) (ft.bind fun t => .pure (!t)) := fun n ok =>
  wt_not ((ha n ok.bindL).mono fun b n1 h1 => h1.bind hit_pure)
theorem st_yes : ST c Γ tYes (.pure true) := fun n ok => wt_yes hit_pure
theorem so_none : SO c Γ tNoPart (.pure none) := fun n ok => wo_none hit_pure
theorem so_some (ha : SE c Γ ta fa) : SO c Γ (tPart ta) (fa.bind fun d => match d with | .int i => .pure (some i) | _ => .stuck) := fun n ok =>
  wo_some ((ha n ok.bindL).mono fun d n1 h1 => by
    have h := ok.bindR h1
    split at h
    · exact ⟨_, rfl, h1.bind hit_pure⟩
    · exact h.stuck.elim)
theorem si_sq (ha : SE c Γ ta fa) : SI c Γ (iSq c.K ta) (fa.bind fun d => .ask fun s => seqS s d) := fun n ok =>
  wi_sq ((ha n ok.bindL).mono fun d n1 h1 => by
    obtain ⟨b, e⟩ := (ok.bindR h1).ask
    exact ⟨b.1, b.2, e, h1.bind (hit_ask e)⟩)
theorem si_rng1 (ha : SA c Γ tl fl) : SI c Γ (iRng1 tl) (fl.bind fun ds => match ds with
    | [.int j] => if rOk j = true then .pure (upTo 0 j.toNat, none) else .stuck
    | _ => .stuck) := fun n ok =>
  wi_rng1 ((ha n ok.bindL).mono fun ds n1 h1 => by
    have h := ok.bindR h1
    split at h
    · obtain ⟨hz, _⟩ := h.pos
      exact ⟨_, rfl, rOk_ok hz, h1.bind (hit_if hz hit_pure)⟩
    · exact h.stuck.elim)
theorem si_rng2 (ha : SA c Γ tl fl) : SI c Γ (iRng2 tl) (fl.bind fun ds => match ds with
    | [.int i, .int j] => if rOk i = true ∧ rOk j = true then .pure (upTo i (j - i).toNat, none) else .stuck
    | _ => .stuck) := fun n ok =>
  wi_rng2 ((ha n ok.bindL).mono fun ds n1 h1 => by
    have h := ok.bindR h1
    split at h
    · obtain ⟨hz, _⟩ := h.pos
      exact ⟨_, _, rfl, ⟨(rOk_ok hz.1).1, (rOk_ok hz.1).2, rOk_ok hz.2⟩, h1.bind (hit_if hz hit_pure)⟩
    · exact h.stuck.elim)
/-! targets -/
theorem wgs_all : ∀ (is : List Nat) (ds : List Dt) (Γ : List Sl) (n : Cs) (k : List Sl → Cs → Prop), ds.length = is.length → k (setAll is ds Γ) n → Wgs c Γ n is (gsOf is) ds k
  | [], [], Γ, n, k, _, h => wgs_nil h
  | i :: is, d :: ds, Γ, n, k, hl, h => wgs_cons (js := [i]) (wg_name (wgs_all is ds _ n k (by simpa using hl) h))
theorem wg_ev {g : Tg} {d : Dt} {Γ' : List Sl} {n : Cs} {k : List Sl → Cs → Prop} (h : evG g d Γ = some Γ') (q : k Γ' n) : Wg c Γ n g.js (g.g c.K) d k := by
  unfold evG at h
  split at h
  · cases h
    exact wg_name q
  · split at h
    · rename_i hl
      cases h
      exact wg_tup hl (wgs_all _ _ _ _ _ hl q)
    · cases h
  · cases h
/-! what is walked stays -/
theorem chk_of {src : Option (Nat × Dt)} {n : Cs} (ok : EOk c (chkE src) n) : chk src n.s ∧ Hit (chkE src) n (.ok ()) n := by
  cases src with
  | none => exact ⟨trivial, hit_pure⟩
  | some x =>
    obtain ⟨i, d⟩ := x
    simp only [chkE] at ok ⊢
    obtain ⟨u, e⟩ := EOk.ask ok
    refine ⟨?_, hit_ask (a := ()) e⟩
    have e0 := e
    show n.s[i]? = some d
    split at e
    · rename_i d' hd
      split at e
      · rename_i hs
        rw [hd, Dt.same_eq _ _ hs]
      · cases e
    · cases e
/-! comprehensions -/
abbrev lcB (g : Tg) (Γ : List Sl) (ft : List Sl → Ev Bool) (fe : List Sl → Ev Dt) : Dt → Ev (Option Dt) := fun d => (Ev.of (evG g d (wipeG Γ g.js))).bind fun Γ2 => (ft Γ2).bind fun b => if b = true then (fe Γ2).bind fun e => .pure (some e) else .pure none
theorem lc_ask {g : Tg} {src : Option (Nat × Dt)} {ft : List Sl → Ev Bool} {fe : List Sl → Ev Dt} (ht : ∀ Γ, ST c Γ tt (ft Γ)) (he : ∀ Γ, SE c Γ ta (fe Γ)) {ds : List Dt} {n : Cs} (hz : szOk ds.length = true) (ok : EOk c (evLc src (lcB g Γ ft fe) ds []) n) :
    LcAsk c Γ g.js g.js (g.g c.K) tt ta ds src n fun es m => Hit (evLc src (lcB g Γ ft fe) ds []) n (.ok es) m := by
  have hc : ∀ (ds : List Dt) (es : List Dt) (m : Cs), EOk c (evLc src (lcB g Γ ft fe) ds es) m → EOk c (chkE src) m := fun ds es m ok => by
    cases ds with
    | nil => exact EOk.bindL (g := fun _ => Ev.pure es) ok
    | cons d ds => exact EOk.bindL (g := fun _ => (lcB g Γ ft fe d).bind fun o => evLc src (lcB g Γ ft fe) ds (es ++ o.toList)) ok
  refine ⟨fun i es m => es.length ≤ i ∧ EOk c (evLc src (lcB g Γ ft fe) (ds.drop i) es) m ∧ ∀ r m', Hit (evLc src (lcB g Γ ft fe) (ds.drop i) es) m r m' → Hit (evLc src (lcB g Γ ft fe) ds []) n r m', ⟨Nat.le_refl _, ok, fun _ _ z => z⟩, fun i es m h => (chk_of (hc _ _ _ h.2.1)).1, fun i es m d hd h => ?_, fun es m h => ?_⟩
  · obtain ⟨h1, h2, h3⟩ := h
    obtain ⟨hi, ed⟩ := List.getElem?_eq_some_iff.mp hd
    have ed2 : ds.drop i = d :: ds.drop (i + 1) := by rw [← ed]; exact List.drop_eq_getElem_cons hi
    have hck := (chk_of (hc _ _ _ h2)).2
    rw [ed2] at h2 h3
    have ok2 : EOk c ((lcB g Γ ft fe d).bind fun o => evLc src (lcB g Γ ft fe) (ds.drop (i + 1)) (es ++ o.toList)) m := EOk.bindR (f := chkE src) (g := fun _ => (lcB g Γ ft fe d).bind fun o => evLc src (lcB g Γ ft fe) (ds.drop (i + 1)) (es ++ o.toList)) h2 hck
    replace h3 : ∀ r m', Hit ((lcB g Γ ft fe d).bind fun o => evLc src (lcB g Γ ft fe) (ds.drop (i + 1)) (es ++ o.toList)) m r m' → Hit (evLc src (lcB g Γ ft fe) ds []) n r m' := fun r m' q => h3 r m' (Hit.bind (f := chkE src) (g := fun _ => (lcB g Γ ft fe d).bind fun o => evLc src (lcB g Γ ft fe) (ds.drop (i + 1)) (es ++ o.toList)) hck q)
    obtain ⟨Γ2, eΓ⟩ := ok2.bindL.bindL.of
    have okb := ok2.bindL.bindR (hit_of eΓ (n := m))
    refine wg_ev eΓ (((ht Γ2) m okb.bindL).mono fun b m2 q => ?_)
    have okc := okb.bindR q
    refine ite_b (fun hb => ?_) fun hb => ?_
    · rw [if_pos hb] at okc
      refine ((he Γ2) m2 okc.bindL).mono fun e m3 q2 => ⟨?_, ?_, ?_, ?_⟩
      · have := Nat.le_of_ble_eq_true hz
        exact Nat.ble_eq_true_of_le (show es.length + 1 ≤ 16777216 by omega)
      · rw [List.length_append]; simp; omega
      · have hh : Hit (lcB g Γ ft fe d) m (.ok (some e)) m3 := (hit_of eΓ).bind (q.bind (hit_if hb (q2.bind hit_pure)))
        exact ok2.bindR hh
      · intro r m' q3
        have hh : Hit (lcB g Γ ft fe d) m (.ok (some e)) m3 := (hit_of eΓ).bind (q.bind (hit_if hb (q2.bind hit_pure)))
        exact h3 r m' (hh.bind (g := fun (o : Option Dt) => evLc src (lcB g Γ ft fe) (ds.drop (i + 1)) (es ++ o.toList)) q3)
    · have hh : Hit (lcB g Γ ft fe d) m (.ok none) m2 := (hit_of eΓ).bind (q.bind (hit_else (by rw [hb]; decide) hit_pure))
      have ok3 := ok2.bindR hh
      refine ⟨by omega, ?_, ?_⟩
      · simpa using ok3
      · intro r m' q3
        exact h3 r m' (hh.bind (g := fun (o : Option Dt) => evLc src (lcB g Γ ft fe) (ds.drop (i + 1)) (es ++ o.toList)) (by simpa using q3))
  · obtain ⟨h1, h2, h3⟩ := h
    have hck := (chk_of (hc _ _ _ h2)).2
    rw [List.drop_length] at h3
    exact h3 _ _ (Hit.bind (f := chkE src) (g := fun _ => Ev.pure es) hck hit_pure)
theorem sn_lc {wi : TI} {fi : Ev (List Dt × Option (Nat × Dt))} {g : Tg} {ft : List Sl → Ev Bool} {fe : List Sl → Ev Dt} (hi : SI c Γ wi fi) (ht : ∀ Γ, ST c Γ tt (ft Γ)) (he : ∀ Γ, SE c Γ ta (fe Γ)) :
    SN c Γ (tLc wi (g.g c.K) tt ta g.js) (fi.bind fun ds => if szOk ds.1.length = true then (evLc ds.2 (lcB g Γ ft fe) ds.1 []).bind fun es => .pure (.lst es) else .stuck) := fun n ok =>
  wn_lc (fun j h => h) ((hi n ok.bindL).mono fun ds src n1 h1 => by
    obtain ⟨hz, ok2⟩ := (ok.bindR h1).pos
    obtain ⟨I, i0, hch, tn, dn⟩ := lc_ask ht he hz ok2.bindL
    exact ⟨I, i0, hch, tn, fun es m q => h1.bind (hit_if hz ((dn es m q).bind hit_pure))⟩)
end
end Pb
namespace Pb
open PySem PySem.Spec PyProof.Rows L2

section
variable {c : Fc} {Γ : List Sl} {ta tb tc tx : TE} {tl tk : TA} {tt tu : TT} {fa fb fc fx : Ev Dt} {fl fk : Ev (List Dt)} {ft fu : Ev Bool}
/-! ### statements -/
section
variable {ts tu' : TS} {f g : Ev Fl} {i : Nat}
theorem sw_seq {k : List Sl → Ev Fl} (ha : SW c Γ ts f) (hb : ∀ Γ', SW c Γ' tu' (k Γ')) : SW c Γ (tSeq ts tu') (f.bind fun r => match r with | .nx Γ' => k Γ' | r => .pure r) := fun n ok =>
  w_seq ((ha n ok.bindL).mono (fun Γ' m h1 => (hb Γ' m (ok.bindR h1)).mono (fun _ _ q => Hit.bind h1 q) (fun _ _ q => Hit.bind h1 q) (fun _ _ q => Hit.bind h1 q) (fun _ _ q => Hit.bind h1 q))
    (fun d m h1 => Hit.bind h1 hit_pure) (fun Γ' m h1 => Hit.bind h1 hit_pure) fun Γ' m h1 => Hit.bind h1 hit_pure)
theorem sw_asg (ha : SE c Γ ta fa) : SW c Γ (tAsg ta (gName i)) (fa.bind fun d => .pure (.nx (Γ.set i (.da d)))) := fun n ok =>
  w_asg ((ha n ok.bindL).mono fun d n1 h1 => h1.bind hit_pure)
theorem sw_asgG {is : List Nat} (ha : SE c Γ ta fa) : SW c Γ (tAsg ta (gTup c.K is.length (gsOf is))) (fa.bind fun d => (Ev.of (evG (.tup is) d Γ)).bind fun Γ' => .pure (.nx Γ')) := fun n ok =>
  w_asgG (js := is) ((ha n ok.bindL).mono fun d n1 h1 => by
    obtain ⟨x, ex⟩ := (ok.bindR h1).bindL.of
    exact wg_ev (g := .tup is) ex (h1.bind ((hit_of ex).bind hit_pure)))
theorem sw_ret (ha : SE c Γ ta fa) : SW c Γ (tRet ta) (fa.bind fun d => .pure (.rt d)) := fun n ok =>
  w_ret ((ha n ok.bindL).mono fun d n1 h1 => h1.bind hit_pure)
theorem sw_ifS (ht : ST c Γ tt ft) (ha : SW c Γ ts f) (hb : SW c Γ tu' g) : SW c Γ (tIfS tt ts tu') (ft.bind fun t => if t = true then f else g) := fun n ok =>
  w_ifS ((ht n ok.bindL).mono fun b n1 h1 => by
    have h2 := ok.bindR h1
    refine ite_b (fun hb' => ?_) fun hb' => ?_
    · rw [if_pos hb'] at h2
      exact (ha n1 h2).mono (fun _ _ q => Hit.bind h1 (hit_if hb' q)) (fun _ _ q => Hit.bind h1 (hit_if hb' q)) (fun _ _ q => Hit.bind h1 (hit_if hb' q)) (fun _ _ q => Hit.bind h1 (hit_if hb' q))
    · have hb2 : ¬ b = true := by rw [hb']; decide
      rw [if_neg hb2] at h2
      exact (hb n1 h2).mono (fun _ _ q => Hit.bind h1 (hit_else hb2 q)) (fun _ _ q => Hit.bind h1 (hit_else hb2 q)) (fun _ _ q => Hit.bind h1 (hit_else hb2 q)) (fun _ _ q => Hit.bind h1 (hit_else hb2 q)))
theorem sw_for {wi : TI} {fi : Ev (List Dt × Option (Nat × Dt))} {g : Tg} {fb : List Sl → Ev Fl} (hi : SI c Γ wi fi) (hb : ∀ Γ, SW c Γ ts (fb Γ)) : SW c Γ (tFor wi (g.g c.K) ts) (fi.bind fun ds => evFor ds.2 (fun d Γ' => (Ev.of (evG g d Γ')).bind fun Γ2 => fb Γ2) ds.1 Γ) := fun n ok =>
  w_for (js := g.js) ((hi n ok.bindL).mono fun ds src n1 h1 => by
    have ok1 : EOk c (evFor src (fun d Γ' => (Ev.of (evG g d Γ')).bind fun Γ2 => fb Γ2) ds Γ) n1 := ok.bindR h1
    have hc : ∀ (ds : List Dt) (Γ' : List Sl) (m : Cs), EOk c (evFor src (fun d Γ' => (Ev.of (evG g d Γ')).bind fun Γ2 => fb Γ2) ds Γ') m → EOk c (chkE src) m := fun ds Γ' m ok => by
      cases ds with
      | nil => simp only [evFor] at ok; exact ok.bindL
      | cons d ds => simp only [evFor] at ok; exact ok.bindL
    refine ⟨fun j Γ' m => EOk c (evFor src (fun d Γ' => (Ev.of (evG g d Γ')).bind fun Γ2 => fb Γ2) (ds.drop j) Γ') m ∧ ∀ r m', Hit (evFor src (fun d Γ' => (Ev.of (evG g d Γ')).bind fun Γ2 => fb Γ2) (ds.drop j) Γ') m r m' → Hit (fi.bind fun ds => evFor ds.2 (fun d Γ' => (Ev.of (evG g d Γ')).bind fun Γ2 => fb Γ2) ds.1 Γ) n r m', ⟨ok1, fun r m' q => h1.bind q⟩, fun j Γ' m _ h => (chk_of (hc _ _ _ h.1)).1, fun j Γ' m d hd _ h => ?_, fun Γ' m _ h => ?_⟩
    · obtain ⟨h2, h3⟩ := h
      obtain ⟨hj, ed⟩ := List.getElem?_eq_some_iff.mp hd
      have ed2 : ds.drop j = d :: ds.drop (j + 1) := by rw [← ed]; exact List.drop_eq_getElem_cons hj
      have hck := (chk_of (hc _ _ _ h2)).2
      rw [ed2] at h2 h3
      simp only [evFor] at h2 h3
      have ok0 := h2.bindR hck
      simp only [Ev.bind_assoc] at ok0
      replace h3 := fun r m' q => h3 r m' (Hit.bind hck q)
      simp only [Ev.bind_assoc] at h3
      obtain ⟨Γ2, eΓ⟩ := ok0.bindL.of
      have ok2 := ok0.bindR (hit_of eΓ (n := m))
      refine wg_ev eΓ ((hb Γ2 m ok2.bindL).mono (fun Γ3 m3 q => ?_) (fun e m3 q => ?_) (fun Γ3 m3 q => ?_) fun Γ3 m3 q => ?_)
      · exact ⟨ok2.bindR q, fun r m' q2 => h3 r m' ((hit_of eΓ).bind (Hit.bind q q2))⟩
      · exact h3 _ _ ((hit_of eΓ).bind (Hit.bind q hit_pure))
      · exact h3 _ _ ((hit_of eΓ).bind (Hit.bind q hit_pure))
      · exact ⟨ok2.bindR q, fun r m' q2 => h3 r m' ((hit_of eΓ).bind (Hit.bind q q2))⟩
    · obtain ⟨h2, h3⟩ := h
      have hck := (chk_of (hc _ _ _ h2)).2
      rw [List.drop_length] at h3
      simp only [evFor] at h3
      exact h3 _ _ (Hit.bind hck hit_pure))
theorem sw_while {k : Nat} {gt : List Sl → Ev Bool} {fb : List Sl → Ev Fl} (ht : ∀ Γ, ST c Γ tt (gt Γ)) (hb : ∀ Γ, SW c Γ ts (fb Γ)) : SW c Γ (tWhile tt ts) (evWh gt fb k Γ) := fun n ok =>
  w_while (fun m Γ' n' => EOk c (evWh gt fb m Γ') n' ∧ ∀ r m', Hit (evWh gt fb m Γ') n' r m' → Hit (evWh gt fb k Γ) n r m') ⟨k, ok, fun _ _ z => z⟩ fun m Γ' n' _ h => by
    obtain ⟨h2, h3⟩ := h
    cases m with
    | zero => simp only [evWh] at h2; exact h2.stuck.elim
    | succ m =>
      simp only [evWh] at h2 h3
      refine (ht Γ' n' h2.bindL).mono fun b n2 q => ?_
      have ok2 := h2.bindR q
      refine ite_b (fun hb' => ?_) fun hb' => ?_
      · rw [if_pos hb'] at ok2
        refine (hb Γ' n2 ok2.bindL).mono (fun Γ3 m3 q2 => ?_) (fun e m3 q2 => ?_) (fun Γ3 m3 q2 => ?_) fun Γ3 m3 q2 => ?_
        · exact ⟨m, Nat.lt_succ_self m, ok2.bindR q2, fun r m' q3 => h3 r m' (Hit.bind q (hit_if hb' (Hit.bind q2 q3)))⟩
        · exact h3 _ _ (Hit.bind q (hit_if hb' (Hit.bind q2 hit_pure)))
        · exact h3 _ _ (Hit.bind q (hit_if hb' (Hit.bind q2 hit_pure)))
        · exact ⟨m, Nat.lt_succ_self m, ok2.bindR q2, fun r m' q3 => h3 r m' (Hit.bind q (hit_if hb' (Hit.bind q2 q3)))⟩
      · exact h3 _ _ (Hit.bind q (hit_else (by rw [hb']; decide) hit_pure))
theorem sw_drop (ha : SE c Γ ta fa) : SW c Γ (tDrop ta) (fa.bind fun _ => .pure (.nx Γ)) := fun n ok =>
  w_drop ((ha n ok.bindL).mono fun d n1 h1 => h1.bind hit_pure)
theorem sw_rais {cn f' : Str} {C : Addr} (hm : c.mg cn = some (.ref C)) (ha : SE c Γ ta fa) : SW c Γ (tRaiseS C f' (fun cls d _ H => c.E cls d H) (tCons ta tNil)) (fa.bind fun d => .rais cn [(f', d)]) := fun n ok =>
  w_raise hm (wa_cons ((ha n ok.bindL).mono fun d n1 h1 => wa_nil ⟨d, rfl, ok.2 _ _ _ (h1.bind hit_rais)⟩))
theorem sw_par {j : Nat} (ha : SE c Γ ta fa) (hb : SE c Γ tb fb) : SW c Γ (tPar i j (tCons ta (tCons tb tNil))) (fa.bind fun d => fb.bind fun e => .pure (.nx ((Γ.set i (.da d)).set j (.da e)))) := fun n ok =>
  w_par (wa_cons ((ha n ok.bindL).mono fun d n1 h1 => wa_cons ((hb n1 (ok.bindR h1).bindL).mono fun e n2 h2 => wa_nil ⟨d, e, rfl, h1.bind (h2.bind hit_pure)⟩)))
/-! fields and items are stored -/
theorem setFE_ok {sf : Str → Bool} {f : Str} {a e : Dt} {s s' : List Dt} {u : Unit} (h : setFE sf f a e s = some (u, s')) : ∃ i cn ns ds, a = .rf i ∧ s[i]? = some (.obj cn ns ds) ∧ sf cn = true ∧ ns.length < 1000 ∧ s' = s.set i (.obj cn (putN f ns) (putD f e ns ds)) := by
  unfold setFE at h
  split at h
  · split at h
    · rename_i cn ns ds hi
      split at h
      · rename_i hz
        cases h
        exact ⟨_, cn, ns, ds, rfl, hi, hz.1, hz.2, rfl⟩
      · cases h
    · cases h
  · cases h
theorem sw_setF {sf : Str → Bool} {f : Str} (hs : ∀ cn, sf cn = true → c.mg cn = some (.ref (He.ga c.K cn)) ∧ Cls c.K (He.ga c.K cn) ∧ NoAttr c.K (He.ga c.K cn) f) (hb : SE c Γ tb fb) (ha : SE c Γ ta fa) :
    SW c Γ (sFld c.K ta tb f) (fb.bind fun d => fa.bind fun a => (Ev.upd (setFE sf f a d)).bind fun _ => .pure (.nx Γ)) := fun n ok =>
  w_setF ((hb n ok.bindL).mono fun d n1 h1 => (ha n1 (ok.bindR h1).bindL).mono fun a n2 h2 => by
    obtain ⟨u, s, e⟩ := ((ok.bindR h1).bindR h2).bindL.upd
    obtain ⟨i, cn, ns, ds, rfl, hi, hcn, hz, rfl⟩ := setFE_ok e
    obtain ⟨g1, g2, g3⟩ := hs cn hcn
    exact ⟨i, cn, ns, ds, rfl, hi, g1, g2, g3, hz, h1.bind (h2.bind ((hit_upd e).bind hit_pure))⟩)
theorem augGet_ok {sf : Str → Bool} {f : Str} {a : Dt} {s : List Dt} {x : Str × Dt} (h : augGet sf f a s = some x) : ∃ i ns ds, a = .rf i ∧ s[i]? = some (.obj x.1 ns ds) ∧ sf x.1 = true ∧ (ns.zip ds).lookup f = some x.2 := by
  unfold augGet at h
  split at h
  · split at h
    · rename_i cn ns ds hi
      split at h
      · rename_i hz
        obtain ⟨d, h1, rfl⟩ := Option.map_eq_some_iff.mp h
        exact ⟨_, ns, ds, rfl, hi, hz, h1⟩
      · cases h
    · cases h
  · cases h
theorem sw_augF {o : O2} {sf : Str → Bool} {f : Str} (hs : ∀ cn, sf cn = true → c.mg cn = some (.ref (He.ga c.K cn)) ∧ Cls c.K (He.ga c.K cn) ∧ NoAttr c.K (He.ga c.K cn) f) (ha : SE c Γ ta fa) (hb : SE c Γ tb fb) :
    SW c Γ (sFldAug c.K ta tb (o.r c.K) f) (fa.bind fun a => (Ev.ask (augGet sf f a)).bind fun d0 => fb.bind fun d => (Ev.ask fun s => o.ev (dr s d0.2) (dr s d)).bind fun z => (Ev.upd (setFE (fun cn => decide (cn = d0.1)) f a z)).bind fun _ => .pure (.nx Γ)) := fun n ok =>
  w_augF ((ha n ok.bindL).mono fun a n1 h1 => by
    have ok1 := ok.bindR h1
    obtain ⟨x, ex⟩ := ok1.bindL.ask
    obtain ⟨i, ns, ds, rfl, hi, hcn, hl⟩ := augGet_ok ex
    obtain ⟨g1, g2, g3⟩ := hs _ hcn
    have hx : Hit (Ev.ask (augGet sf f (.rf i))) n1 (.ok x) n1 := hit_ask ex
    have ok2 := ok1.bindR hx
    refine ⟨i, x.1, ns, ds, x.2, rfl, hi, g1, g2, g3, hl, (hb n1 ok2.bindL).mono fun e n2 h2 => ?_⟩
    have ok3 := ok2.bindR h2
    obtain ⟨z, ez⟩ := ok3.bindL.ask
    have hz : Hit (Ev.ask fun s => o.ev (dr s x.2) (dr s e)) n2 (.ok z) n2 := hit_ask ez
    refine O2.sound ez ?_
    obtain ⟨u, s, e⟩ := (ok3.bindR hz).bindL.upd
    obtain ⟨i', cn', ns', ds', ei, hi', hcn', hz', rfl⟩ := setFE_ok e
    cases ei
    have ec := of_decide_eq_true hcn'
    subst ec
    exact ⟨ns', ds', hi', hz', h1.bind (hx.bind (h2.bind (hz.bind ((hit_upd e).bind hit_pure))))⟩)
theorem setIE_ok {a i e : Dt} {s s' : List Dt} {u : Unit} (h : setIE a i e s = some (u, s')) : ∃ j d0 d, a = .rf j ∧ s[j]? = some d0 ∧ setE d0 i e = some d ∧ s' = s.set j d := by
  unfold setIE at h
  split at h
  · obtain ⟨d0, h1, h2⟩ := Option.bind_eq_some_iff.mp h
    obtain ⟨d, h3, h4⟩ := Option.map_eq_some_iff.mp h2
    cases h4
    exact ⟨_, d0, d, rfl, h1, h3, rfl⟩
  · cases h
theorem sw_setI (hc : SE c Γ tc fc) (ha : SE c Γ ta fa) (hb : SE c Γ tb fb) : SW c Γ (tAsg tc (gSub ta tb rSetX)) (fc.bind fun d => fa.bind fun a => fb.bind fun i => (Ev.upd (setIE a i d)).bind fun _ => .pure (.nx Γ)) := fun n ok =>
  w_setI ((hc n ok.bindL).mono fun d n1 h1 => (ha n1 (ok.bindR h1).bindL).mono fun a n2 h2 => (hb n2 ((ok.bindR h1).bindR h2).bindL).mono fun i n3 h3 => by
    obtain ⟨u, s, e⟩ := (((ok.bindR h1).bindR h2).bindR h3).bindL.upd
    obtain ⟨j, d0, d', rfl, hj, hd, rfl⟩ := setIE_ok e
    exact ⟨j, d0, d', rfl, hj, hd, h1.bind (h2.bind (h3.bind ((hit_upd e).bind hit_pure)))⟩)
end
/-! ### methods of lists and dicts -/
theorem isLst_ok {s : List Dt} {d : Dt} {i : Nat} (h : isLst s d = some i) : d = .rf i ∧ ∃ ds, s[i]? = some (.lst ds) := by
  unfold isLst at h
  split at h
  · split at h
    · rename_i ds hi
      cases h
      exact ⟨rfl, ds, hi⟩
    · cases h
  · cases h
theorem bmE_ok {m : Lm} {i : Nat} {es : List Dt} {n : Cs} {d : Dt} {s : List Dt} {k : Kd} (h : bmE m i es n.s = some (d, s)) (q : k d ⟨n.n, s⟩) : ROV c n m.r i es k := by
  unfold bmE at h
  split at h
  · rename_i ds hi
    obtain ⟨r, hr, e⟩ := Option.map_eq_some_iff.mp h
    cases e
    unfold Lm.ev at hr
    split at hr
    · split at hr
      · rename_i hz
        cases hr
        exact o_append hi hz q
      · cases hr
    · obtain ⟨d, hd, rfl⟩ := Option.map_eq_some_iff.mp hr
      exact o_pop hi hd q
    · split at hr
      · rename_i hz
        rw [Bool.and_eq_true, decide_eq_true_eq, decide_eq_true_eq] at hz
        obtain ⟨kx, hk, h2⟩ := Option.bind_eq_some_iff.mp hr
        obtain ⟨d, hd, rfl⟩ := Option.map_eq_some_iff.mp h2
        exact o_popAt hi hz.1 hz.2 hk hd q
      · cases hr
    · split at hr
      · rename_i xs hx
        split at hr
        · rename_i hz
          cases hr
          exact o_extend hi hx hz q
        · cases hr
      · cases hr
    · split at hr
      · rename_i hz
        rw [Bool.and_eq_true, Bool.and_eq_true, decide_eq_true_eq, decide_eq_true_eq] at hz
        cases hr
        exact o_insert hi hz.1 hz.2.1 hz.2.2 q
      · cases hr
    · cases hr
      exact o_clear hi q
    · cases hr
  · cases h
theorem se_bm {m : Lm} (ha : SE c Γ ta fa) (hl : SA c Γ tl fl) : SE c Γ (tBM c.K "list" m.r ta tl) (fa.bind fun d => (Ev.ask fun s => isLst s d).bind fun i => fl.bind fun es => .upd (bmE m i es)) := fun n ok =>
  w_bmC rfl ((ha n ok.bindL).mono fun d n1 h1 => by
    have ok1 := ok.bindR h1
    obtain ⟨i, ei⟩ := ok1.bindL.ask
    obtain ⟨rfl, ds, hi⟩ := isLst_ok ei
    have hx : Hit (Ev.ask fun s => isLst s (.rf i)) n1 (.ok i) n1 := hit_ask ei
    have ok2 := ok1.bindR hx
    refine ⟨i, ds, rfl, hi, (hl n1 ok2.bindL).mono fun es n2 h2 => ?_⟩
    obtain ⟨d, s, e⟩ := (ok2.bindR h2).upd
    exact bmE_ok e (h1.bind (hx.bind (h2.bind (hit_upd e)))))
theorem se_bm0 {m : Lm} (ha : SE c Γ ta fa) : SE c Γ (tBM0 c.K "list" m.r ta) (fa.bind fun d => (Ev.ask fun s => isLst s d).bind fun i => .upd (bmE m i [])) := fun n ok =>
  w_bmC0 rfl ((ha n ok.bindL).mono fun d n1 h1 => by
    have ok1 := ok.bindR h1
    obtain ⟨i, ei⟩ := ok1.bindL.ask
    obtain ⟨rfl, ds, hi⟩ := isLst_ok ei
    have hx : Hit (Ev.ask fun s => isLst s (.rf i)) n1 (.ok i) n1 := hit_ask ei
    have ok2 := ok1.bindR hx
    obtain ⟨d, s, e⟩ := ok2.upd
    exact ⟨i, ds, rfl, hi, bmE_ok e (h1.bind (hx.bind (hit_upd e)))⟩)
theorem isDic_ok {s : List Dt} {d : Dt} {u : Unit} (h : isDic s d = some u) : ∃ ks ds, dr s d = .dic ks ds := by
  unfold isDic at h
  split at h
  · rename_i ks ds e
    exact ⟨ks, ds, e⟩
  · cases h
theorem getE_ok {d e x y : Dt} {s : List Dt} (h : getE d e x s = some y) : ∃ ks ds key, dr s d = .dic ks ds ∧ keyD e = some key ∧ y = (getK key ks ds).getD x := by
  unfold getE at h
  split at h
  · rename_i ks ds e1
    obtain ⟨key, hk, rfl⟩ := Option.map_eq_some_iff.mp h
    exact ⟨ks, ds, key, e1, hk, rfl⟩
  · cases h
theorem se_get1 (ha : SE c Γ ta fa) (hb : SE c Γ tb fb) : SE c Γ (tDGet1 ta tb) (fa.bind fun d => (Ev.ask fun s => isDic s d).bind fun _ => fb.bind fun e => .ask (getE d e .non)) := fun n ok =>
  w_get1 ((ha n ok.bindL).mono fun d n1 h1 => by
    have ok1 := ok.bindR h1
    obtain ⟨u, eu⟩ := ok1.bindL.ask
    have hx : Hit (Ev.ask fun s => isDic s d) n1 (.ok u) n1 := hit_ask eu
    have ok2 := ok1.bindR hx
    refine ⟨isDic_ok eu, (hb n1 ok2.bindL).mono fun e n2 h2 => ?_⟩
    obtain ⟨y, ey⟩ := (ok2.bindR h2).ask
    obtain ⟨ks, ds, key, g1, g2, rfl⟩ := getE_ok ey
    exact ⟨ks, ds, key, g1, g2, h1.bind (hx.bind (h2.bind (hit_ask ey)))⟩)
theorem se_get2 (ha : SE c Γ ta fa) (hb : SE c Γ tb fb) (hc : SE c Γ tc fc) : SE c Γ (tDGet2 ta tb tc) (fa.bind fun d => (Ev.ask fun s => isDic s d).bind fun _ => fb.bind fun e => fc.bind fun x => .ask (getE d e x)) := fun n ok =>
  w_get2 ((ha n ok.bindL).mono fun d n1 h1 => by
    have ok1 := ok.bindR h1
    obtain ⟨u, eu⟩ := ok1.bindL.ask
    have hx : Hit (Ev.ask fun s => isDic s d) n1 (.ok u) n1 := hit_ask eu
    have ok2 := ok1.bindR hx
    refine ⟨isDic_ok eu, (hb n1 ok2.bindL).mono fun e n2 h2 => (hc n2 (ok2.bindR h2).bindL).mono fun x n3 h3 => ?_⟩
    obtain ⟨y, ey⟩ := ((ok2.bindR h2).bindR h3).ask
    obtain ⟨ks, ds, key, g1, g2, rfl⟩ := getE_ok ey
    exact ⟨ks, ds, key, g1, g2, h1.bind (hx.bind (h2.bind (h3.bind (hit_ask ey))))⟩)
/-! ### sealed -/
theorem se_seal (h : ∀ xk, SE { c with xk := xk } Γ ta fa) : SE c Γ ta (sealE fa) := fun n ok => by
  intro y ρ σ H S Q hQ
  have exk0 : Exk c ⟨H, y, ρ.ln⟩ := Exk.leave S
  have ns := NS.seal ok.1
  refine h (fun cn es m => Hit fa n (.ex cn es) m) n ⟨ns, fun _ _ _ z => z⟩ y ⟨H, y, ρ.ln⟩ σ H ⟨S.len, rfl.trans S.gl, S.lay, Sx.refl, fun _ z => z, ?_, S.dat⟩ Q ?_
  · intro cn C x m H' fs es n' h1 sx L nx h2 hn da hit
    obtain ⟨ht, es', hf, hit'⟩ := Hit.sealX ok.1 hit
    obtain ⟨L2, x2, dd, w⟩ := Lay.seal S.lay sx L ht
    obtain ⟨q1, q2⟩ := frzs_data dd da hf
    exact exk0 cn C x y.m H' fs es' ⟨n'.n, n.s⟩ h1 x2 L2 (fun z => nx (w _ z)) h2 (hn.trans q1.symm) q2 (ok.2 cn es' _ hit')
  · intro m v H' d n' S' x da hit
    obtain ⟨ht, d', hf, hit'⟩ := Hit.seal ok.1 hit
    obtain ⟨L2, x2, dd, w⟩ := Lay.seal S.lay x S'.lay ht
    exact hQ y.m v H' d' ⟨n'.n, n.s⟩ (S.go x2 L2 fun _ z => z) x2 (dd v d d' da hf) hit'
end
end Pb
namespace Pb
open PySem PySem.Spec PyProof.Rows L2

/-! ### objects: what evaluates soundly -/
section
variable {c : Fc} {Γ : List Sl} {ta tb : TE} {tl tk : TA} {fa fb : Ev Dt} {fl fk : Ev (List Dt)} {F : Nat → List Dt → Ev Dt} {rai : Str → Bool} {f : Str}
theorem hit_dr {d : Dt} {n : Cs} : Hit (drE d) n (.ok (dr n.s d)) n := hit_ask rfl
theorem se_at {cs : List (Str × Atk)} (hF : c.er = none ∨ ∀ i ds, F i ds = .stuck) (hr : ∀ cn, rai cn = true → c.mg cn = some (.ref (He.ga c.K cn))) (ha : SE c Γ ta fa) : SE c Γ (tAt c.K (fun id => spE c.K c.mg c.T (F id)) f cs ta) (fa.bind fun d => (drE d).bind (atE rai F f cs d)) := fun n ok =>
  w_at ((ha n ok.bindL).mono fun d n1 h1 => by
    have ok1 := (ok.bindR h1).bindR hit_dr
    have hb : ∀ {e : Dt} {m : Cs}, Hit (atE rai F f cs d (dr n1.s d)) n1 (.ok e) m → Hit (fa.bind fun d => (drE d).bind (atE rai F f cs d)) n (.ok e) m := fun h => h1.bind (hit_dr.bind h)
    generalize dr n1.s d = d' at ok1 hb ⊢
    cases d' with
    | obj cn ns ds =>
      unfold atE at ok1 hb
      obtain ⟨hc, ok2⟩ := ok1.pos
      simp only [if_pos hc] at hb
      cases hl : cs.lookup cn with
      | none => rw [hl] at ok2; exact ok2.stuck.elim
      | some kd =>
        simp only [hl] at hb ok2
        refine ⟨cn, ns, ds, kd, rfl, hr cn hc, PySem.mem_of_lookup hl, ?_⟩
        cases kd with
        | fld =>
          obtain ⟨e, ee⟩ := ok2.of
          exact ⟨e, ee, hb (hit_of ee)⟩
        | int i =>
          obtain ⟨hn, _⟩ := ok2.pos
          exact ⟨hn, hb (hit_if hn hit_pure)⟩
        | str i =>
          obtain ⟨hn, _⟩ := ok2.pos
          exact ⟨hn, hb (hit_if hn hit_pure)⟩
        | prop id =>
          exact cal_of (c := c) (e := false) (hF.imp (fun z => z) fun z => z _ _) ok2 fun e m' h => hb h
    | _ => exact ok1.stuck.elim)
theorem se_me {e : Bool} {cs : List (Str × Nat)} (hF : c.er = none ∨ ∀ i ds, F i ds = .stuck) (hr : ∀ cn, rai cn = true → c.mg cn = some (.ref (He.ga c.K cn))) (ha : SE c Γ ta fa) (hl : SA c Γ tl fl) : SE c Γ (tMe c.K (fun id => spE c.K c.mg c.T (F id)) (selE e c.E) f cs ta tl) (fa.bind fun d => (drE d).bind (meE rai F e f cs fl d)) := fun n ok =>
  w_me ((ha n ok.bindL).mono fun d n1 h1 => by
    have ok1 := (ok.bindR h1).bindR hit_dr
    have hb : ∀ {v : Dt} {m : Cs}, Hit (meE rai F e f cs fl d (dr n1.s d)) n1 (.ok v) m → Hit (fa.bind fun d => (drE d).bind (meE rai F e f cs fl d)) n (.ok v) m := fun h => h1.bind (hit_dr.bind h)
    generalize dr n1.s d = d' at ok1 hb ⊢
    cases d' with
    | obj cn ns ds =>
      unfold meE at ok1 hb
      obtain ⟨hc, ok2⟩ := ok1.pos
      simp only [if_pos hc] at hb
      cases hlk : cs.lookup cn with
      | none => rw [hlk] at ok2; exact ok2.stuck.elim
      | some id =>
        simp only [hlk] at hb ok2
        refine ⟨cn, ns, ds, id, rfl, hr cn hc.1, PySem.mem_of_lookup hlk, hc.2, (hl n1 ok2.bindL).mono fun es m h2 => ?_⟩
        exact cal_of (hF.imp (fun z => z) fun z => z _ _) (ok2.bindR h2) fun v m' h => hb (h2.bind h)
    | _ => exact ok1.stuck.elim)
theorem se_su {e : Bool} {cs : List (Str × Nat)} {i : Nat} (hF : c.er = none ∨ ∀ i ds, F i ds = .stuck) (hr : ∀ cn, rai cn = true → c.mg cn = some (.ref (He.ga c.K cn))) (hl : SA c Γ tl fl) : SE c Γ (tSu c.K (fun id => spE c.K c.mg c.T (F id)) (selE e c.E) i cs tl) ((Ev.of (varE Γ i)).bind fun d => (drE d).bind (suE rai F e cs fl d)) := fun n ok => by
  obtain ⟨d, ed⟩ := ok.bindL.of
  have hi : Γ[i]? = some (.da d) := by
    have e := ed
    unfold varE at e
    split at e
    · cases e; assumption
    · cases e
  have h1 : Hit (Ev.of (varE Γ i)) n (.ok d) n := hit_of ed
  have ok1 := (ok.bindR h1).bindR hit_dr
  have hb : ∀ {v : Dt} {m : Cs}, Hit (suE rai F e cs fl d (dr n.s d)) n (.ok v) m → Hit ((Ev.of (varE Γ i)).bind fun d => (drE d).bind (suE rai F e cs fl d)) n (.ok v) m := fun h => h1.bind (hit_dr.bind h)
  generalize e1 : dr n.s d = d' at ok1 hb
  cases d' with
  | obj cn ns ds =>
    unfold suE at ok1 hb
    obtain ⟨hc, ok2⟩ := ok1.pos
    simp only [if_pos hc] at hb
    cases hlk : cs.lookup cn with
    | none => rw [hlk] at ok2; exact ok2.stuck.elim
    | some id =>
      simp only [hlk] at hb ok2
      refine w_su hi e1 (hr cn hc) (PySem.mem_of_lookup hlk) ((hl n ok2.bindL).mono fun es m h2 => ?_)
      exact cal_of (hF.imp (fun z => z) fun z => z _ _) (ok2.bindR h2) fun v m' h => hb (h2.bind h)
  | _ => exact ok1.stuck.elim
abbrev mkR (F : Nat → List Dt → Ev Dt) (e : Bool) (id : Nat) (es : List Dt) (r : Dt) : Ev Dt := (selF e (F id (r :: es))).bind fun d => match d with
  | .non => .pure r
  | _ => .stuck
/-- C(..) -/
theorem se_mk {e : Bool} {cn : Str} {id na nk : Nat} {ix : List Nat} (hF : c.er = none ∨ ∀ i ds, F i ds = .stuck) (hr : rai cn = true → c.mg cn = some (.ref (He.ga c.K cn))) (hl : SA c Γ tl fl) (hk : SA c Γ tk fk) :
    SE c Γ (tMk c.K (fun id => spE c.K c.mg c.T (F id)) (selE e c.E) cn id na nk ix tl tk)
      (if rai cn = true then fl.bind fun ds => fk.bind fun es => if ds.length = na ∧ es.length = nk then mkE F e cn id (gPm ix ds es) else .stuck else .stuck) := fun n ok => by
  obtain ⟨hc, ok⟩ := ok.pos
  refine w_mk (hr hc) ((hl n ok.bindL).mono fun ds n1 h1 => (hk n1 (ok.bindR h1).bindL).mono fun es n2 h2 => ?_)
  obtain ⟨hz, ok2⟩ := ((ok.bindR h1).bindR h2).pos
  have ok3 : EOk c (mkR F e id (gPm ix ds es) (.rf n2.s.length)) ⟨n2.n, n2.s ++ [.obj cn [] []]⟩ := EOk.bindR (f := Ev.new (.obj cn [] [])) (g := mkR F e id (gPm ix ds es)) ok2 hit_new
  refine ⟨hz, cal_of (hF.imp (fun z => z) fun z => z _ _) ok3.bindL fun d m q => ?_⟩
  have ok4 := ok3.bindR q
  cases d with
  | non =>
    refine ⟨rfl, hit_if hc (h1.bind (h2.bind (hit_if hz ?_)))⟩
    exact Hit.bind (f := Ev.new (.obj cn [] [])) (g := mkR F e id (gPm ix ds es)) hit_new (Hit.bind q hit_pure)
  | _ => exact ok4.stuck.elim
/-- isinstance(e, C) -/
theorem se_isq {kit : Cq → Cq → Option Bool} {b : Cq} (hk : ∀ a b r, kit a b = some r → CqOk c.K c.mg a ∧ PySem.W.kitOne c.K (a.u c.K) (b.u c.K) = some r) (ha : SE c Γ ta fa) :
    SE c Γ (tCB (rIsi c.K) (tCons ta (tCons (tC (b.v c.K)) tNil))) (fa.bind fun d => .ask fun s => ((dr s d).cq.bind fun a => kit a b).map Dt.bl) := fun n ok =>
  w_isq ((ha n ok.bindL).mono fun d n1 h1 => by
    obtain ⟨v, ev⟩ := (ok.bindR h1).ask
    have ev0 := ev
    obtain ⟨r, hr, rfl⟩ := Option.map_eq_some_iff.mp ev
    obtain ⟨a, ea, hr⟩ := Option.bind_eq_some_iff.mp hr
    obtain ⟨g1, g2⟩ := hk a b r hr
    exact ⟨a, r, ea, g1, g2, h1.bind (hit_ask ev0)⟩)
theorem kitL_head {g : Cq → Option Bool} {P : Prop} (h : ∀ b r, g b = some r → P) : ∀ {bs : List Cq} {r : Bool}, bs ≠ [] → kitL g bs = some r → P
  | [], _, z, _ => absurd rfl z
  | b :: bs, r, _, e => by
    unfold kitL at e
    cases hb : g b with
    | none => rw [hb] at e; cases e
    | some v => exact h b v hb
theorem se_isqT {kit : Cq → Cq → Option Bool} {bs : List Cq} (hne : bs ≠ []) (hk : ∀ a b r, kit a b = some r → CqOk c.K c.mg a ∧ PySem.W.kitOne c.K (a.u c.K) (b.u c.K) = some r) (ha : SE c Γ ta fa) :
    SE c Γ (tCB (rIsiT c.K) (tCons ta (tCons (tTup (tQs c.K bs)) tNil))) (if szOk bs.length = true then fa.bind fun d => .ask fun s => ((dr s d).cq.bind fun a => kitL (kit a) bs).map Dt.bl else .stuck) := fun n ok0 => by
  obtain ⟨hz, ok⟩ := ok0.pos
  refine w_isqT hz ((ha n ok.bindL).mono fun d n1 h1 => ?_)
  obtain ⟨v, ev⟩ := (ok.bindR h1).ask
  have ev0 := ev
  obtain ⟨r, hr, rfl⟩ := Option.map_eq_some_iff.mp ev
  obtain ⟨a, ea, hr⟩ := Option.bind_eq_some_iff.mp hr
  have g1 : CqOk c.K c.mg a := kitL_head (fun b r h => (hk a b r h).1) hne hr
  exact ⟨a, r, ea, g1, kitL_ok (fun b r h => (hk a b r h).2) hr, hit_if hz (h1.bind (hit_ask ev0))⟩
/-! ### x == y by an own __eq__ -/
theorem xor_ok {ne : Bool} {g : Ev Dt} {m : Cs} {k : Kd} (hF : c.er = none ∨ g = .stuck) (ok : EOk c (xorE ne g) m) (h : ∀ v m', Hit (xorE ne g) m (.ok v) m' → k v m') : Cal1 c E0 g m fun v m' => ∃ r, v = .bl r ∧ k (.bl (Bool.xor ne r)) m' := by
  refine cal_of (e := false) hF ok.bindL fun e m' q => ?_
  have ok2 := ok.bindR q
  cases e with
  | bl r => exact ⟨r, rfl, h _ m' (Hit.bind q hit_pure)⟩
  | _ => exact ok2.stuck.elim
theorem eqE_rg {m : Cs} {d e : Dt} {k : Kd} {b ne : Bool} (h : eqE (dr m.s d) (dr m.s e) = some b) (q : k (.bl (Bool.xor ne b)) m) : RG c Γ m (rEqN c.K ne) d e k := by
  cases ne with
  | true => exact rg_of2 (r2_lift (x := .bl (!b)) (fun y => (eqE_ok (c := c.at_ y) (n := m.n) h).2 rfl) rfl (by simpa using q))
  | false => exact rg_of2 (r2_lift (x := .bl b) (fun y => (eqE_ok (c := c.at_ y) (n := m.n) h).1 rfl) rfl (by simpa using q))
theorem se_eqA {ne : Bool} {cs : List (Str × Nat)} {nf : Str → Cq → Option Bool} (hF : c.er = none ∨ ∀ i ds, F i ds = .stuck) (hr : ∀ cn, rai cn = true → c.mg cn = some (.ref (He.ga c.K cn)))
    (hn0 : ∀ cn q, nf cn q = some false → CqOk c.K c.mg q ∧ PySem.W.notFirst c.K (He.ga c.K cn) (q.u c.K) = true)
    (hn1 : ∀ cn cn', nf cn (.own cn') = some true → ((Value.ref (He.ga c.K cn)) != .ref (He.ga c.K cn')) = true ∧ PySem.W.subIn c.K (.ref (He.ga c.K cn')) (.ref (He.ga c.K cn)) = some true)
    (ha : SE c Γ ta fa) (hb : SE c Γ tb fb) : SE c Γ (tOp (rEqA c.K (fun id => spE c.K c.mg c.T (F id)) ne cs) ta tb) (fa.bind fun d => fb.bind fun e => (drE d).bind fun d' => (drE e).bind fun e' => eqAE rai F nf ne cs d e d' e') := fun n ok =>
  w_opG ((ha n ok.bindL).mono fun d n1 h1 => (hb n1 (ok.bindR h1).bindL).mono fun e n2 h2 => by
    have ok2 := (((ok.bindR h1).bindR h2).bindR hit_dr).bindR hit_dr
    have hb : ∀ v m', Hit (eqAE rai F nf ne cs d e (dr n2.s d) (dr n2.s e)) n2 (.ok v) m' → Hit (fa.bind fun d => fb.bind fun e => (drE d).bind fun d' => (drE e).bind fun e' => eqAE rai F nf ne cs d e d' e') n (.ok v) m' := fun v m' h => h1.bind (h2.bind (hit_dr.bind (hit_dr.bind h)))
    generalize ed : dr n2.s d = d' at ok2 hb
    generalize ee : dr n2.s e = e' at ok2 hb
    by_cases ho : isO rai d' = true
    · cases d' with
      | obj cn ns ds =>
        have e1 : eqAE rai F nf ne cs d e (.obj cn ns ds) e' = eqOE rai F nf ne cs d e (.obj cn ns ds) e' := if_pos ho
        rw [e1] at ok2 hb
        refine RG.inl (rg_eqO ed (hr cn ho) ?_)
        rw [ee]
        simp only [eqOE] at ok2 hb
        cases hq : e'.cq with
        | none =>
          rw [hq] at ok2
          exact ok2.stuck.elim
        | some q =>
          simp only [hq, Option.bind_some] at ok2 hb
          cases hf : nf cn q with
          | none =>
            rw [hf] at ok2
            exact ok2.stuck.elim
          | some b =>
            simp only [hf] at ok2 hb
            cases b with
            | false =>
              cases hl : cs.lookup cn with
              | none =>
                simp only [hl] at ok2
                exact ok2.stuck.elim
              | some id =>
                simp only [hl] at ok2 hb
                obtain ⟨g1, g2⟩ := hn0 cn q hf
                exact .inl ⟨id, q, PySem.mem_of_lookup hl, rfl, g1, g2, xor_ok (hF.imp (fun z => z) fun z => z _ _) ok2 hb⟩
            | true =>
              cases e' with
              | obj cn' ns' ds' =>
                cases hq
                simp only at ok2 hb
                obtain ⟨ho', ok3⟩ := ok2.pos
                simp only [if_pos ho'] at hb
                cases hl : cs.lookup cn' with
                | none =>
                  simp only [hl] at ok3
                  exact ok3.stuck.elim
                | some id =>
                  simp only [hl] at ok3 hb
                  obtain ⟨g1, g2⟩ := hn1 cn cn' hf
                  exact .inr ⟨cn', ns', ds', id, rfl, hr cn' ho', PySem.mem_of_lookup hl, g1, g2, xor_ok (hF.imp (fun z => z) fun z => z _ _) ok3 hb⟩
              | _ => exact ok2.stuck.elim
      | _ => cases ho
    · have e1 : eqAE rai F nf ne cs d e d' e' = .of ((eqE d' e').map fun b => .bl (Bool.xor ne b)) := if_neg ho
      rw [e1] at ok2 hb
      obtain ⟨v, hv⟩ := ok2.of
      have hv0 := hv
      obtain ⟨b, hb', rfl⟩ := Option.map_eq_some_iff.mp hv
      exact RG.inr (eqE_rg (by rw [ed, ee]; exact hb') (hb _ _ (hit_of hv0))))
/-! ### errors held -/
mutual
theorem Dt.nrf_refB : ∀ (d : Dt), d.nrf = true → refB 0 d
  | .rf _, h => by cases h
  | .lst ds, h => Dt.nrfs_refBs ds h
  | .tup ds, h => Dt.nrfs_refBs ds h
  | .dic _ ds, h => Dt.nrfs_refBs ds h
  | .obj _ _ ds, h => Dt.nrfs_refBs ds h
  | .err _ _ ds, h => Dt.nrfs_refBs ds h
  | .non, _ => trivial
  | .bl _, _ => trivial
  | .int _, _ => trivial
  | .str _, _ => trivial
  | .pen, _ => trivial
  | .cls _, _ => trivial
theorem Dt.nrfs_refBs : ∀ (ds : List Dt), Dt.nrfs ds = true → refBs 0 ds
  | [], _ => trivial
  | d :: ds, h => by
    have h : (d.nrf && Dt.nrfs ds) = true := h
    rw [Bool.and_eq_true] at h
    exact ⟨Dt.nrf_refB d h.1, Dt.nrfs_refBs ds h.2⟩
end
theorem NS.hide {f : Ev Dt} {n : Cs} (h : NS (hideE f) n) : NS f ⟨n.n, []⟩ := fun l hl => by
  obtain ⟨x, e⟩ := h l hl
  unfold hideE at e
  dsimp only at e ⊢
  cases q : f (l, []) with
  | none => rw [q] at e; cases e
  | some y => exact ⟨y, rfl⟩
theorem Hit.hide {f : Ev Dt} {n : Cs} {r : Re Dt} {m : Cs} (h : NS (hideE f) n) (q : Hit f ⟨n.n, []⟩ r m) : m.s = [] ∧ Hit (hideE f) n r ⟨m.n, n.s⟩ := by
  obtain ⟨u, hu, e⟩ := q
  have hs : m.s = [] := by
    obtain ⟨l, hl⟩ := lens m.n
    obtain ⟨x, e2⟩ := h (u ++ l) (app_len hu hl)
    unfold hideE at e2
    have e1 := e l hl
    dsimp only at e1 e2
    rw [e1] at e2
    dsimp only at e2
    split at e2
    · assumption
    · cases e2
  refine ⟨hs, u, hu, fun l hl => ?_⟩
  unfold hideE
  have e1 := e l hl
  dsimp only at e1 ⊢
  rw [e1, hs]
end
end Pb
namespace Pb
open PySem PySem.Spec PyProof.Rows L2

/-- the readings' parameters in the context c -/
abbrev dnOf (c : Fc) (q : Qc) (a : Addr) (cls : Value) (d : Option Addr) : Dn := ⟨c.K, c.T, c.mg, c.E, fun f => spE c.K c.mg c.T (q.f f), a, cls, d⟩
/-- what the evaluation may lean on -/
structure Sc (c : Wc) (q : Qc) (a : Addr) (cls : Value) (d : Option Addr) : Prop where
  sys : ∃ o, c.K.lookup sysModules = some o
  cal : c.er = none ∨ ∀ i ds, q.f i ds = .stuck
  hd : q.hd = true → ∃ D0 dd0, c.er = some (a, D0, dd0) ∧ cls = .ref D0 ∧ d = some dd0
  lam : q.lam = true → c.er = none
  isa : ∀ cn C b, q.isa cn C = some b → ∀ D, c.mg cn = some (.ref D) → ecB c.K D = true ∧ PySem.W.kitOne c.K (.ref D) (.ref (He.ga c.K C)) = some b
  fld : ∀ cn f, q.fld cn f = true → ∀ D, c.mg cn = some (.ref D) → ecB c.K D = true ∧ PySem.W.findIn c.K (.ref D) f = some none
  exm : ∀ cn ex, q.exm cn ex = true → ∀ C, c.mg cn = some (.ref C) → PySem.W.exmOne c.K (.ref C) (.ref (He.ga c.K ex)) = some true
  rai : ∀ cn, q.rai cn = true → c.mg cn = some (.ref (He.ga c.K cn))
  kit : ∀ a b r, q.kit a b = some r → CqOk c.K c.mg a ∧ PySem.W.kitOne c.K (a.u c.K) (b.u c.K) = some r
  nf0 : ∀ cn x, q.nf cn x = some false → CqOk c.K c.mg x ∧ PySem.W.notFirst c.K (He.ga c.K cn) (x.u c.K) = true
  nf1 : ∀ cn cn', q.nf cn (.own cn') = some true → ((Value.ref (He.ga c.K cn)) != .ref (He.ga c.K cn')) = true ∧ PySem.W.subIn c.K (.ref (He.ga c.K cn')) (.ref (He.ga c.K cn)) = some true
  sf : ∀ cn f, q.sf cn f = true → c.mg cn = some (.ref (He.ga c.K cn)) ∧ Cls c.K (He.ga c.K cn) ∧ NoAttr c.K (He.ga c.K cn) f
section
variable {c : Fc} {Γ : List Sl} {ta : TE} {fa : Ev Dt}
theorem se_if {p : Prop} [Decidable p] {te : TE} {f : Ev Dt} (h : p → SE c Γ te f) : SE c Γ te (if p then f else .stuck) := fun n ok => by
  obtain ⟨hp, ok2⟩ := ok.pos
  exact (h hp n ok2).mono fun d m q => hit_if hp q
theorem se_isH {a D0 dd0 : Addr} {cls : Value} {d : Option Addr} {C : Addr} {isa : Str → Option Bool} (her : c.er = some (a, D0, dd0)) (hcls : cls = .ref D0) (hd : d = some dd0) (hi : ∀ cn b, isa cn = some b → ∀ D, c.mg cn = some (.ref D) → ecB c.K D = true ∧ PySem.W.kitOne c.K (.ref D) (.ref C) = some b) (ha : SE c Γ ta fa) :
    SE c Γ (tCB (rIsHV c.K a cls d) (tCons ta (tCons (tC (.ref C)) tNil))) (fa.bind fun d => match d with | .err cn _ _ => (Ev.of (isa cn)).bind fun b => .pure (.bl b) | _ => .stuck) := fun n ok =>
  w_isHV her hcls hd ((ha n ok.bindL).mono fun d n1 h1 => by
    have ok1 := ok.bindR h1
    split at ok1
    · rename_i cn ns ds
      obtain ⟨b, eb⟩ := ok1.bindL.of
      exact ⟨cn, ns, ds, b, rfl, hi cn b eb, h1.bind ((hit_of eb).bind hit_pure)⟩
    · exact ok1.stuck.elim)
theorem se_hvf {a D0 dd0 : Addr} {cls : Value} {d : Option Addr} {f : Str} {fld : Str → Bool} (her : c.er = some (a, D0, dd0)) (hcls : cls = .ref D0) (hd : d = some dd0) (hi : ∀ cn, fld cn = true → ∀ D, c.mg cn = some (.ref D) → ecB c.K D = true ∧ PySem.W.findIn c.K (.ref D) f = some none) (ha : SE c Γ ta fa) :
    SE c Γ (tHVf c.K a cls d f ta) (fa.bind fun d => match d with | .err cn ns ds => if fld cn = true then .of ((ns.zip ds).lookup f) else .stuck | _ => .stuck) := fun n ok =>
  w_hvf her hcls hd ((ha n ok.bindL).mono fun d n1 h1 => by
    have ok1 := ok.bindR h1
    split at ok1
    · rename_i cn ns ds
      obtain ⟨hf, ok2⟩ := ok1.pos
      obtain ⟨e, ee⟩ := ok2.of
      exact ⟨cn, ns, ds, e, rfl, hi cn hf, ee, h1.bind (hit_if hf (hit_of ee))⟩
    · exact ok1.stuck.elim)
end
mutual
theorem sound_e : ∀ (t : Te) (c : Fc) (q : Qc) (a : Addr) (cls : Value) (d : Option Addr) (Γ : List Sl), Sc c.toWc q a cls d → SE c Γ (den t (dnOf c q a cls d)) (evE t q Γ)
  | .var i, c, q, a, cls, d, Γ, s => by simp only [den, evE]; exact se_var
  | .non, c, q, a, cls, d, Γ, s => by simp only [den, evE]; exact se_pure fun n k h => w_non h
  | .bl b, c, q, a, cls, d, Γ, s => by simp only [den, evE]; exact se_pure fun n k h => w_bl h
  | .int i, c, q, a, cls, d, Γ, s => by simp only [den, evE]; exact se_pure fun n k h => w_int h
  | .str x, c, q, a, cls, d, Γ, s => by simp only [den, evE]; exact se_pure fun n k h => w_str h
  | .op o x y, c, q, a, cls, d, Γ, s => by simp only [den, evE]; exact se_op (sound_e x c q a cls d Γ s) (sound_e y c q a cls d Γ s)
  | .neg x, c, q, a, cls, d, Γ, s => by simp only [den, evE]; exact se_neg (sound_e x c q a cls d Γ s)
  | .not_ x, c, q, a, cls, d, Γ, s => by simp only [den, evE]; exact se_not (sound_e x c q a cls d Γ s)
  | .and_ x y, c, q, a, cls, d, Γ, s => by simp only [den, evE]; exact se_and (sound_e x c q a cls d Γ s) (sound_e y c q a cls d Γ s)
  | .or_ x y, c, q, a, cls, d, Γ, s => by simp only [den, evE]; exact se_or (sound_e x c q a cls d Γ s) (sound_e y c q a cls d Γ s)
  | .ifx t x y, c, q, a, cls, d, Γ, s => by simp only [den, evE]; exact se_ifx (sound_t t c q a cls d Γ s) (sound_e x c q a cls d Γ s) (sound_e y c q a cls d Γ s)
  | .lst as, c, q, a, cls, d, Γ, s => by simp only [den, evE]; exact (sn_lst (sound_a as c q a cls d Γ s)).tree
  | .nw x, c, q, a, cls, d, Γ, s => by simp only [den, evE]; exact se_nw (sound_n x c q a cls d Γ s)
  | .tup as, c, q, a, cls, d, Γ, s => by simp only [den, evE]; exact se_tup (sound_a as c q a cls d Γ s)
  | .dnew, c, q, a, cls, d, Γ, s => by simp only [den, evE]; exact sn_dnew.tree
  | .disp ps, c, q, a, cls, d, Γ, s => by simp only [den, evE]; exact (sn_disp (sound_p ps c q a cls d Γ s)).tree
  | .sl x lo hi, c, q, a, cls, d, Γ, s => by simp only [den, evE]; exact se_sl (sound_e x c q a cls d Γ s) (sound_o lo c q a cls d Γ s) (sound_o hi c q a cls d Γ s)
  | .rev x, c, q, a, cls, d, Γ, s => by simp only [den, evE]; exact se_rev (sound_e x c q a cls d Γ s)
  | .chain o p x y z, c, q, a, cls, d, Γ, s => by simp only [den, evE]; exact se_chain (sound_e x c q a cls d Γ s) (sound_e y c q a cls d Γ s) (sound_e z c q a cls d Γ s)
  | .call e f as, c, q, a, cls, d, Γ, s => by simp only [den, evE]; exact se_call (s.cal.imp (fun z => z) fun z ds => z _ ds) (sound_a as c q a cls d Γ s)
  | .callK e f na nk as ks, c, q, a, cls, d, Γ, s => by simp only [den, evE]; exact se_callK (s.cal.imp (fun z => z) fun z ds => z _ ds) (sound_a as c q a cls d Γ s) (sound_a ks c q a cls d Γ s)
  | .callP e f na nk ix as ks, c, q, a, cls, d, Γ, s => by simp only [den, evE]; exact se_callP (s.cal.imp (fun z => z) fun z ds => z _ ds) (sound_a as c q a cls d Γ s) (sound_a ks c q a cls d Γ s)
  | .blt b as, c, q, a, cls, d, Γ, s => by simp only [den, evE]; exact se_blt s.sys (sound_a as c q a cls d Γ s)
  | .isi T x, c, q, a, cls, d, Γ, s => by simp only [den, evE]; exact se_isi (sound_e x c q a cls d Γ s)
  | .isiTL x, c, q, a, cls, d, Γ, s => by simp only [den, evE]; exact se_isiTL (sound_e x c q a cls d Γ s)
  | .join x y, c, q, a, cls, d, Γ, s => by simp only [den, evE]; exact se_join (sound_e x c q a cls d Γ s) (sound_e y c q a cls d Γ s)
  | .split x y, c, q, a, cls, d, Γ, s => by simp only [den, evE]; exact (sn_split (sound_e x c q a cls d Γ s) (sound_e y c q a cls d Γ s)).tree
  | .lc it g tt el, c, q, a, cls, d, Γ, s => by simp only [den, evE]; exact (sn_lc (sound_i it c q a cls d Γ s) (fun Γ => sound_t tt c q a cls d Γ s) (fun Γ => sound_e el c q a cls d Γ s)).tree
  | .isH C x, c, q, a, cls, d, Γ, s => by
    simp only [den, evE]
    refine se_if fun hp => ?_
    obtain ⟨D0, dd0, h1, h2, h3⟩ := s.hd hp
    exact se_isH h1 h2 h3 (fun cn b h => s.isa cn C b h) (sound_e x c q a cls d Γ s)
  | .hvf f x, c, q, a, cls, d, Γ, s => by
    simp only [den, evE]
    refine se_if fun hp => ?_
    obtain ⟨D0, dd0, h1, h2, h3⟩ := s.hd hp
    exact se_hvf h1 h2 h3 (fun cn h => s.fld cn f h) (sound_e x c q a cls d Γ s)
  | .at_ f cs x, c, q, a, cls, d, Γ, s => by simp only [den, evE]; exact se_at s.cal s.rai (sound_e x c q a cls d Γ s)
  | .me e m cs x as, c, q, a, cls, d, Γ, s => by simp only [den, evE]; exact se_me s.cal s.rai (sound_e x c q a cls d Γ s) (sound_a as c q a cls d Γ s)
  | .isq b x, c, q, a, cls, d, Γ, s => by simp only [den, evE]; exact se_isq s.kit (sound_e x c q a cls d Γ s)
  | .isqT b bs x, c, q, a, cls, d, Γ, s => by simp only [den, evE]; exact se_isqT (List.cons_ne_nil _ _) s.kit (sound_e x c q a cls d Γ s)
  | .mk e cn id na nk ix as ks, c, q, a, cls, d, Γ, s => by simp only [den, evE]; exact se_mk s.cal (s.rai cn) (sound_a as c q a cls d Γ s) (sound_a ks c q a cls d Γ s)
  | .eqO ne cs x y, c, q, a, cls, d, Γ, s => by simp only [den, evE]; exact se_eqA s.cal s.rai s.nf0 s.nf1 (sound_e x c q a cls d Γ s) (sound_e y c q a cls d Γ s)
  | .su e i cs as, c, q, a, cls, d, Γ, s => by simp only [den, evE]; exact se_su s.cal s.rai (sound_a as c q a cls d Γ s)
  | .bm m x as, c, q, a, cls, d, Γ, s => by simp only [den, evE]; exact se_bm (sound_e x c q a cls d Γ s) (sound_a as c q a cls d Γ s)
  | .bm0 m x, c, q, a, cls, d, Γ, s => by simp only [den, evE]; exact se_bm0 (sound_e x c q a cls d Γ s)
  | .get1 x y, c, q, a, cls, d, Γ, s => by simp only [den, evE]; exact se_get1 (sound_e x c q a cls d Γ s) (sound_e y c q a cls d Γ s)
  | .get2 x y z, c, q, a, cls, d, Γ, s => by simp only [den, evE]; exact se_get2 (sound_e x c q a cls d Γ s) (sound_e y c q a cls d Γ s) (sound_e z c q a cls d Γ s)
  | .sld x, c, q, a, cls, d, Γ, s => by simp only [den, evE]; exact se_seal fun xk => sound_e x { c with xk := xk } q a cls d Γ s
  | .hear ex i j len rest body, c, q, a, cls, d, Γ, s => by
    simp only [den, evE]
    refine se_if fun hp n ok => ?_
    obtain ⟨hlam, hij, hjl⟩ := hp
    have her := s.lam hlam
    refine w_lamL her hij hjl fun E => ?_
    refine (sound_e body (lamC c E (He.ga c.K ex) j len (fun a cls d => denS rest (dnOf (erC c a 0 0) { q with hd := true, lam := false, f := fun _ _ => .stuck } a cls d)) _) q a cls d Γ ⟨s.sys, s.cal, s.hd, s.lam, s.isa, s.fld, s.exm, s.rai, s.kit, s.nf0, s.nf1, s.sf⟩ n ⟨ok.catN, fun cn es m h1 => ?_⟩).mono fun v m h1 => h1.cat hit_pure
    obtain ⟨hx, ok2⟩ := (ok.catR h1).pos
    refine ⟨s.exm cn ex hx.1, Dt.nrfs_refBs _ hx.2, fun a' C x hC => ?_⟩
    obtain ⟨ns, nx⟩ := ok2.1.hide.calm
    have sc2 : Sc (erC c a' C x).toWc { q with hd := true, lam := false, f := fun _ _ => .stuck } a' (.ref C) (some x) := ⟨s.sys, .inr fun _ _ => rfl, fun _ => ⟨C, x, rfl, rfl, rfl⟩, fun z => (by cases z), s.isa, s.fld, s.exm, s.rai, s.kit, s.nf0, s.nf1, s.sf⟩
    have ok3 : EOk (erC c a' C x) ((evS rest { q with hd := true, lam := false, f := fun _ _ => .stuck } (gamE len j cn es)).bind retH) ⟨m.n, []⟩ := ⟨ns, fun cn' es' m' z => (nx cn' es' m' z).elim⟩
    refine (sound_s rest (erC c a' C x) { q with hd := true, lam := false, f := fun _ _ => .stuck } a' (.ref C) (some x) (gamE len j cn es) sc2 ⟨m.n, []⟩ ok3.bindL).mono (fun Γ' m' q' => ?_) (fun e m' q' => ?_) (fun Γ' m' q' => ?_) (fun Γ' m' q' => ?_)
    · exact (ok3.bindR q').stuck.elim
    · have ok4 : EOk (erC c a' C x) (if e.ne = true then Ev.pure e else .stuck) m' := ok3.bindR q'
      obtain ⟨hn, _⟩ := ok4.pos
      have hh : Hit (((evS rest { q with hd := true, lam := false, f := fun _ _ => .stuck } (gamE len j cn es)).bind retH).calm) ⟨m.n, []⟩ (.ok e) m' := Hit.calm (Hit.bind q' (show Hit (if e.ne = true then Ev.pure e else .stuck) m' (.ok e) m' from hit_if hn hit_pure))
      obtain ⟨hs, hh2⟩ := Hit.hide ok2.1 hh
      exact ⟨hn, fun _ => h1.catX (hit_if hx hh2), hs⟩
    · exact (ok3.bindR q').stuck.elim
    · exact (ok3.bindR q').stuck.elim
theorem sound_n : ∀ (t : Te) (c : Fc) (q : Qc) (a : Addr) (cls : Value) (d : Option Addr) (Γ : List Sl), Sc c.toWc q a cls d → SN c Γ (den t (dnOf c q a cls d)) (evN t q Γ)
  | .op o x y, c, q, a, cls, d, Γ, s => by simp only [den, evN]; exact sn_op (sound_e x c q a cls d Γ s) (sound_e y c q a cls d Γ s)
  | .lst as, c, q, a, cls, d, Γ, s => by simp only [den, evN]; exact sn_lst (sound_a as c q a cls d Γ s)
  | .dnew, c, q, a, cls, d, Γ, s => by simp only [den, evN]; exact sn_dnew
  | .disp ps, c, q, a, cls, d, Γ, s => by simp only [den, evN]; exact sn_disp (sound_p ps c q a cls d Γ s)
  | .sl x lo hi, c, q, a, cls, d, Γ, s => by simp only [den, evN]; exact sn_sl (sound_e x c q a cls d Γ s) (sound_o lo c q a cls d Γ s) (sound_o hi c q a cls d Γ s)
  | .blt b as, c, q, a, cls, d, Γ, s => by simp only [den, evN]; exact sn_blt (sound_a as c q a cls d Γ s)
  | .split x y, c, q, a, cls, d, Γ, s => by simp only [den, evN]; exact sn_split (sound_e x c q a cls d Γ s) (sound_e y c q a cls d Γ s)
  | .lc it g tt el, c, q, a, cls, d, Γ, s => by simp only [den, evN]; exact sn_lc (sound_i it c q a cls d Γ s) (fun Γ => sound_t tt c q a cls d Γ s) (fun Γ => sound_e el c q a cls d Γ s)
  | .var _, _, _, _, _, _, _, _ | .non, _, _, _, _, _, _, _ | .bl _, _, _, _, _, _, _, _ | .int _, _, _, _, _, _, _, _ | .str _, _, _, _, _, _, _, _
  | .neg _, _, _, _, _, _, _, _ | .not_ _, _, _, _, _, _, _, _ | .and_ _ _, _, _, _, _, _, _, _ | .or_ _ _, _, _, _, _, _, _, _ | .ifx _ _ _, _, _, _, _, _, _, _ | .tup _, _, _, _, _, _, _, _
  | .nw _, _, _, _, _, _, _, _ | .rev _, _, _, _, _, _, _, _ | .chain _ _ _ _ _, _, _, _, _, _, _, _ | .call _ _ _, _, _, _, _, _, _, _ | .callK _ _ _ _ _ _, _, _, _, _, _, _, _ | .callP _ _ _ _ _ _ _, _, _, _, _, _, _, _
  | .isi _ _, _, _, _, _, _, _, _ | .isiTL _, _, _, _, _, _, _, _ | .join _ _, _, _, _, _, _, _, _ | .hear _ _ _ _ _ _, _, _, _, _, _, _, _ | .isH _ _, _, _, _, _, _, _, _ | .hvf _ _, _, _, _, _, _, _, _
  | .at_ _ _ _, _, _, _, _, _, _, _ | .me _ _ _ _ _, _, _, _, _, _, _, _ | .mk _ _ _ _ _ _ _ _, _, _, _, _, _, _, _ | .isq _ _, _, _, _, _, _, _, _ | .isqT _ _ _, _, _, _, _, _, _, _ | .eqO _ _ _ _, _, _, _, _, _, _, _
  | .su _ _ _ _, _, _, _, _, _, _, _ | .bm _ _ _, _, _, _, _, _, _, _ | .bm0 _ _, _, _, _, _, _, _, _ | .get1 _ _, _, _, _, _, _, _, _ | .get2 _ _ _, _, _, _, _, _, _, _ | .sld _, _, _, _, _, _, _, _ => fun n ok => ok.stuck.elim
theorem sound_a : ∀ (t : Ta) (c : Fc) (q : Qc) (a : Addr) (cls : Value) (d : Option Addr) (Γ : List Sl), Sc c.toWc q a cls d → SA c Γ (denA t (dnOf c q a cls d)) (evA t q Γ)
  | .nil, c, q, a, cls, d, Γ, s => by simp only [denA, evA]; exact sa_nil
  | .cons x as, c, q, a, cls, d, Γ, s => by simp only [denA, evA]; exact sa_cons (sound_e x c q a cls d Γ s) (sound_a as c q a cls d Γ s)
theorem sound_p : ∀ (t : Tp) (c : Fc) (q : Qc) (a : Addr) (cls : Value) (d : Option Addr) (Γ : List Sl), Sc c.toWc q a cls d → SP c Γ (denP t (dnOf c q a cls d)) (evP t q Γ)
  | .nil, c, q, a, cls, d, Γ, s => by simp only [denP, evP]; exact sp_nil
  | .cons k v ps, c, q, a, cls, d, Γ, s => by simp only [denP, evP]; exact sp_cons (sound_e k c q a cls d Γ s) (sound_e v c q a cls d Γ s) (sound_p ps c q a cls d Γ s)
theorem sound_t : ∀ (t : Tt) (c : Fc) (q : Qc) (a : Addr) (cls : Value) (d : Option Addr) (Γ : List Sl), Sc c.toWc q a cls d → ST c Γ (denT t (dnOf c q a cls d)) (evT t q Γ)
  | .test x, c, q, a, cls, d, Γ, s => by simp only [denT, evT]; exact st_test (sound_e x c q a cls d Γ s)
  | .tr x, c, q, a, cls, d, Γ, s => by simp only [denT, evT]; exact st_tr (sound_e x c q a cls d Γ s)
  | .and_ x y, c, q, a, cls, d, Γ, s => by simp only [denT, evT]; exact st_and (sound_t x c q a cls d Γ s) (sound_t y c q a cls d Γ s)
  | .or_ x y, c, q, a, cls, d, Γ, s => by simp only [denT, evT]; exact st_or (sound_t x c q a cls d Γ s) (sound_t y c q a cls d Γ s)
  | .not_ x, c, q, a, cls, d, Γ, s => by simp only [denT, evT]; exact st_not (sound_t x c q a cls d Γ s)
  | .yes, c, q, a, cls, d, Γ, s => by simp only [denT, evT]; exact st_yes
theorem sound_o : ∀ (t : To) (c : Fc) (q : Qc) (a : Addr) (cls : Value) (d : Option Addr) (Γ : List Sl), Sc c.toWc q a cls d → SO c Γ (denO t (dnOf c q a cls d)) (evO t q Γ)
  | .none, c, q, a, cls, d, Γ, s => by simp only [denO, evO]; exact so_none
  | .some x, c, q, a, cls, d, Γ, s => by simp only [denO, evO]; exact so_some (sound_e x c q a cls d Γ s)
theorem sound_i : ∀ (t : Ti) (c : Fc) (q : Qc) (a : Addr) (cls : Value) (d : Option Addr) (Γ : List Sl), Sc c.toWc q a cls d → SI c Γ (denI t (dnOf c q a cls d)) (evI t q Γ)
  | .sq x, c, q, a, cls, d, Γ, s => by simp only [denI, evI]; exact si_sq (sound_e x c q a cls d Γ s)
  | .rng1 as, c, q, a, cls, d, Γ, s => by simp only [denI, evI]; exact si_rng1 (sound_a as c q a cls d Γ s)
  | .rng2 as, c, q, a, cls, d, Γ, s => by simp only [denI, evI]; exact si_rng2 (sound_a as c q a cls d Γ s)
theorem sound_s : ∀ (t : Ts) (c : Fc) (q : Qc) (a : Addr) (cls : Value) (d : Option Addr) (Γ : List Sl), Sc c.toWc q a cls d → SW c Γ (denS t (dnOf c q a cls d)) (evS t q Γ)
  | .seq x y, c, q, a, cls, d, Γ, s => by simp only [denS, evS]; exact sw_seq (sound_s x c q a cls d Γ s) fun Γ' => sound_s y c q a cls d Γ' s
  | .asg i x, c, q, a, cls, d, Γ, s => by simp only [denS, evS]; exact sw_asg (sound_e x c q a cls d Γ s)
  | .asgG is x, c, q, a, cls, d, Γ, s => by simp only [denS, evS]; exact sw_asgG (sound_e x c q a cls d Γ s)
  | .ret x, c, q, a, cls, d, Γ, s => by simp only [denS, evS]; exact sw_ret (sound_e x c q a cls d Γ s)
  | .retN, c, q, a, cls, d, Γ, s => by simp only [denS, evS]; exact fun n ok => w_retN hit_pure
  | .ifS t x y, c, q, a, cls, d, Γ, s => by simp only [denS, evS]; exact sw_ifS (sound_t t c q a cls d Γ s) (sound_s x c q a cls d Γ s) (sound_s y c q a cls d Γ s)
  | .for_ it g x, c, q, a, cls, d, Γ, s => by simp only [denS, evS]; exact sw_for (sound_i it c q a cls d Γ s) fun Γ' => sound_s x c q a cls d Γ' s
  | .next, c, q, a, cls, d, Γ, s => by simp only [denS, evS]; exact fun n ok => w_next hit_pure
  | .brk, c, q, a, cls, d, Γ, s => by simp only [denS, evS]; exact fun n ok => w_break hit_pure
  | .cont, c, q, a, cls, d, Γ, s => by simp only [denS, evS]; exact fun n ok => w_cont hit_pure
  | .drop x, c, q, a, cls, d, Γ, s => by simp only [denS, evS]; exact sw_drop (sound_e x c q a cls d Γ s)
  | .rais cn f x, c, q, a, cls, d, Γ, s => by
    simp only [denS, evS]
    intro n ok
    obtain ⟨hp, ok2⟩ := ok.pos
    exact (sw_rais (s.rai cn hp) (sound_e x c q a cls d Γ s) n ok2).mono (fun _ _ z => hit_if hp z) (fun _ _ z => hit_if hp z) (fun _ _ z => hit_if hp z) (fun _ _ z => hit_if hp z)
  | .par i j x y, c, q, a, cls, d, Γ, s => by simp only [denS, evS]; exact sw_par (sound_e x c q a cls d Γ s) (sound_e y c q a cls d Γ s)
  | .while_ k t x, c, q, a, cls, d, Γ, s => by simp only [denS, evS]; exact sw_while (fun Γ' => sound_t t c q a cls d Γ' s) fun Γ' => sound_s x c q a cls d Γ' s
  | .setF x f y, c, q, a, cls, d, Γ, s => by simp only [denS, evS]; exact sw_setF (fun cn h => s.sf cn f h) (sound_e y c q a cls d Γ s) (sound_e x c q a cls d Γ s)
  | .augF x f o y, c, q, a, cls, d, Γ, s => by simp only [denS, evS]; exact sw_augF (fun cn h => s.sf cn f h) (sound_e x c q a cls d Γ s) (sound_e y c q a cls d Γ s)
  | .setI x y z, c, q, a, cls, d, Γ, s => by simp only [denS, evS]; exact sw_setI (sound_e z c q a cls d Γ s) (sound_e x c q a cls d Γ s) (sound_e y c q a cls d Γ s)
end
end Pb
namespace Pb
open PySem PySem.Spec PyProof.Rows L2
open PySem.W (ksFn Frag)

/-! ### what is told of the classes -/
/-- the readings' parameters in a body -/
abbrev dnF (K : PySem.W.Frag) (mg : Str → Option Value) (T : List (Addr × Str)) (E : XK) (F : Nat → List Dt → Ev Dt) : Dn := ⟨K, T, mg, E, fun id => spE K mg T (F id), 0, .none, none⟩
structure Tab where
  isa : List (Str × Str × Bool)
  fld : List (Str × Str)
  exm : List (Str × Str)
  rai : List Str
  kit : List (Cq × Cq × Bool) := []
  nf : List (Str × Cq × Bool) := []
  sf : List (Str × Str) := []
def Tab.kitF (t : Tab) (a b : Cq) : Option Bool := (t.kit.find? fun x => x.1.beq a && x.2.1.beq b).map (·.2.2)
def Tab.nfF (t : Tab) (cn : Str) (b : Cq) : Option Bool := (t.nf.find? fun x => decide (x.1 = cn) && x.2.1.beq b).map (·.2.2)
def Tab.sfF (t : Tab) (cn f : Str) : Bool := t.sf.any fun x => decide (x.1 = cn ∧ x.2 = f)
def Tab.isaF (t : Tab) (cn C : Str) : Option Bool := (t.isa.find? fun x => decide (x.1 = cn ∧ x.2.1 = C)).map (·.2.2)
def Tab.fldF (t : Tab) (cn f : Str) : Bool := t.fld.any fun x => decide (x.1 = cn ∧ x.2 = f)
def Tab.exmF (t : Tab) (cn f : Str) : Bool := t.exm.any fun x => decide (x.1 = cn ∧ x.2 = f)
def Tab.raiF (t : Tab) (cn : Str) : Bool := t.rai.any fun x => decide (x = cn)
structure TabOk (t : Tab) (K : PySem.W.Frag) (mg : Str → Option Value) : Prop where
  sys : ∃ o, K.lookup sysModules = some o
  isa : ∀ x ∈ t.isa, ∀ D, mg x.1 = some (.ref D) → ecB K D = true ∧ PySem.W.kitOne K (.ref D) (.ref (He.ga K x.2.1)) = some x.2.2
  fld : ∀ x ∈ t.fld, ∀ D, mg x.1 = some (.ref D) → ecB K D = true ∧ PySem.W.findIn K (.ref D) x.2 = some none
  exm : ∀ x ∈ t.exm, ∀ D, mg x.1 = some (.ref D) → PySem.W.exmOne K (.ref D) (.ref (He.ga K x.2)) = some true
  rai : ∀ x ∈ t.rai, mg x = some (.ref (He.ga K x))
  kit : ∀ x ∈ t.kit, CqOk K mg x.1 ∧ PySem.W.kitOne K (x.1.u K) (x.2.1.u K) = some x.2.2 := by intro x h; cases h
  nf0 : ∀ x ∈ t.nf, x.2.2 = false → CqOk K mg x.2.1 ∧ PySem.W.notFirst K (He.ga K x.1) (x.2.1.u K) = true := by intro x h; cases h
  nf1 : ∀ x ∈ t.nf, x.2.2 = true → ∀ cn', x.2.1 = .own cn' → ((Value.ref (He.ga K x.1)) != .ref (He.ga K cn')) = true ∧ PySem.W.subIn K (.ref (He.ga K cn')) (.ref (He.ga K x.1)) = some true := by intro x h; cases h
  sf : ∀ x ∈ t.sf, mg x.1 = some (.ref (He.ga K x.1)) ∧ Cls K (He.ga K x.1) ∧ NoAttr K (He.ga K x.1) x.2 := by intro x h; cases h
/-- the evaluation's parameters in a body -/
abbrev qOf (f : Nat → List Dt → Ev Dt) (t : Tab) (lam : Bool) : Qc := ⟨f, false, lam, t.isaF, t.fldF, t.exmF, t.raiF, t.kitF, t.nfF, t.sfF⟩
theorem sc_of {c : Wc} {t : Tab} {f : Nat → List Dt → Ev Dt} {lam : Bool} (h : TabOk t c.K c.mg) (her : c.er = none) : Sc c (qOf f t lam) 0 .none none where
  sys := h.sys
  cal := .inl her
  hd := fun z => by cases z
  lam := fun _ => her
  isa := fun cn C b e D hD => by
    obtain ⟨x, hx, rfl⟩ := Option.map_eq_some_iff.mp e
    have h2 := List.find?_some hx
    obtain ⟨rfl, rfl⟩ := of_decide_eq_true h2
    exact h.isa x (List.mem_of_find?_eq_some hx) D hD
  fld := fun cn f e D hD => by
    obtain ⟨x, hx, h2⟩ := List.any_eq_true.mp e
    obtain ⟨rfl, rfl⟩ := of_decide_eq_true h2
    exact h.fld x hx D hD
  exm := fun cn f e D hD => by
    obtain ⟨x, hx, h2⟩ := List.any_eq_true.mp e
    obtain ⟨rfl, rfl⟩ := of_decide_eq_true h2
    exact h.exm x hx D hD
  rai := fun cn e => by
    obtain ⟨x, hx, h2⟩ := List.any_eq_true.mp e
    have h2 := of_decide_eq_true h2
    subst h2
    exact h.rai x hx
  kit := fun a b r e => by
    obtain ⟨x, hx, rfl⟩ := Option.map_eq_some_iff.mp e
    have h2 := List.find?_some hx
    rw [Bool.and_eq_true] at h2
    have e1 := Cq.beq_eq h2.1
    have e2 := Cq.beq_eq h2.2
    subst e1 e2
    exact h.kit x (List.mem_of_find?_eq_some hx)
  nf0 := fun cn b e => by
    obtain ⟨x, hx, e3⟩ := Option.map_eq_some_iff.mp e
    have h2 := List.find?_some hx
    rw [Bool.and_eq_true] at h2
    have e1 := of_decide_eq_true h2.1
    have e2 := Cq.beq_eq h2.2
    subst e1 e2
    exact h.nf0 x (List.mem_of_find?_eq_some hx) e3
  nf1 := fun cn cn' e => by
    obtain ⟨x, hx, e3⟩ := Option.map_eq_some_iff.mp e
    have h2 := List.find?_some hx
    rw [Bool.and_eq_true] at h2
    have e1 := of_decide_eq_true h2.1
    have e2 := Cq.beq_eq h2.2
    subst e1
    exact h.nf1 x (List.mem_of_find?_eq_some hx) e3 cn' e2
  sf := fun cn f e => by
    obtain ⟨x, hx, h2⟩ := List.any_eq_true.mp e
    obtain ⟨rfl, rfl⟩ := of_decide_eq_true h2
    exact h.sf x hx
theorem nodup_fst {α β : Type} : ∀ {l : List (α × β)} {p a : α × β}, (l.map (·.1)).Nodup → p ∈ l → a ∈ l → p.1 = a.1 → p = a
  | x :: l, p, a, h, hp, ha, e => by
    rw [List.map_cons, List.nodup_cons] at h
    rcases List.mem_cons.mp hp with rfl | hp'
    · rcases List.mem_cons.mp ha with rfl | ha'
      · rfl
      · exact absurd (e ▸ List.mem_map_of_mem ha') h.1
    · rcases List.mem_cons.mp ha with rfl | ha'
      · exact absurd (e ▸ List.mem_map_of_mem hp') h.1
      · exact nodup_fst h.2 hp' ha' e
/-! ### a def, evaluated: ar values, n slots; nox: it raises nothing; lam: it makes lambdas -/
def gamN (n : Nat) (ds : List Dt) : List Sl := ds.map Sl.da ++ List.replicate (n - ds.length) Sl.un
def runF (ar n : Nat) (nox lam : Bool) (body : Ts) (f : Nat → List Dt → Ev Dt) (t : Tab) (ds : List Dt) : Ev Dt :=
  if ds.length = ar then selF (!nox) ((evS body (qOf f t lam) (gamN n ds)).bind retE) else .stuck
theorem calm_no_ex {α : Type} {f : Ev α} {n m : Cs} {cn : Str} {es : List (Str × Dt)} (h : Hit f.calm n (.ex cn es) m) : False := by
  obtain ⟨u, hu, e⟩ := h
  obtain ⟨l, hl⟩ := lens m.n
  have e := e l hl
  unfold Ev.calm at e
  cases q : f (u ++ l, n.s) with
  | none => rw [q] at e; cases e
  | some x =>
    obtain ⟨r, l'⟩ := x
    rw [q] at e
    cases r <;> cases e
theorem FnG.imp {b : Bool} {P : Program} {w : World} {K : PySem.W.Frag} {mg : Str → Option Value} {base : Heap} {CX : CXT} {k : Nat} {f : Addr} {fd : FuncData} {ps : List Str} {sp sp' : Sp} (F : FnG b P w K mg base CX k f fd ps sp) (h : ∀ vs H Q E, sp' vs H Q E → sp vs H Q E) : FnG b P w K mg base CX k f fd ps sp' :=
  ⟨fun vs H Q E z => F.len vs H Q E (h vs H Q E z), fun A outer s H args us vs Q E hr e0 hb r z => F.run A outer s H args us vs Q E hr e0 hb r (h vs H Q E z)⟩
section
variable {P : Program} {w : World} {K : PySem.W.Frag} {mg : Str → Option Value} {T : List (Addr × Str)} {base : Heap} {x qual name : Str} {params : Arguments} {body : List Stmt} {scope : Scope} {dvs : List V} {kws : List (Str × V)} {f D : Addr} {fd : FuncData} {F : Nat → List Dt → Ev Dt} {t : Tab} {tm : Ts} {ar n : Nat} {x0 : Str}
theorem fn_ws {c : Fc} {q : Qc} {a : Addr} {cls : Value} {d : Option Addr} {N : List Str} {ds : List Dt} {m : Cs} (s : Sc c.toWc q a cls d) (ok : EOk c ((evS tm q (gam N ds)).bind retE) m) : Ws c (gam N ds) m (denS tm (dnOf c q a cls d)) (ndE ((evS tm q (gam N ds)).bind retE) m) :=
  (sound_s tm c q a cls d _ s m ok.bindL).mono (fun Γ' m' h => Hit.bind h hit_pure) (fun e m' h => Hit.bind h hit_pure) (fun Γ' m' h => (ok.bindR h).stuck.elim) fun Γ' m' h => (ok.bindR h).stuck.elim
theorem run_len {nox lam : Bool} {ds : List Dt} {m : Cs} (h : NS (runF ar n nox lam tm F t ds) m) : ds.length = ar := ns_pos h
theorem run_eq {nox lam : Bool} {ds : List Dt} (h : ds.length = ar) : runF ar n nox lam tm F t ds = selF (!nox) ((evS tm (qOf F t lam) (gamN n ds)).bind retE) := if_pos h
theorem run_calm {lam : Bool} {ds : List Dt} {m : Cs} (h : NS (runF ar n true lam tm F t ds) m) {cn : Str} {es : List (Str × Dt)} {m' : Cs} (z : Hit (runF ar n true lam tm F t ds) m (.ex cn es) m') : False := by
  rw [run_eq (run_len h)] at z
  exact calm_no_ex z
theorem ws_nox {N : List Str} {lam : Bool} (hN : N.length = n) (ht : TabOk t K mg) {c : Fc} {ds : List Dt} {m : Cs} (hK : c.K = K) (hm : c.mg = mg) (hT : c.T = T) (hE : c.E = E0) (her : c.er = none) (hns : NS (runF ar n true lam tm F t ds) m) :
    Ws c (gam N ds) m (denS tm (dnF K mg T E0 F)) (ndE (runF ar n true lam tm F t ds) m) := by
  have e := run_eq (nox := true) (lam := lam) (F := F) (t := t) (tm := tm) (n := n) (run_len hns)
  rw [e] at hns ⊢
  subst hN
  obtain ⟨h1, h2⟩ := NS.calm hns
  subst hK hm hT
  have w := fn_ws (N := N) (c := c) (q := qOf F t lam) (a := 0) (cls := .none) (d := none) (tm := tm) (ds := ds) (m := m) (sc_of ht her) ⟨h1, fun cn es m' z => (h2 cn es m' z).elim⟩
  have w2 := w.mono (M' := ndE (selF (!true) ((evS tm (qOf F t lam) (gamN N.length ds)).bind retE)) m) (fun _ _ z => Hit.calm z) (fun _ _ z => Hit.calm z) (fun _ _ z => z) (fun _ _ z => z)
  rw [show dnOf c (qOf F t lam) 0 .none none = dnF c.K c.mg c.T E0 F by unfold dnOf; rw [hE]] at w2
  exact w2
theorem ws_x {N : List Str} (hN : N.length = n) (ht : TabOk t K mg) {c : Fc} {ds : List Dt} {m : Cs} {E : XK} (hK : c.K = K) (hm : c.mg = mg) (hT : c.T = T) (hE : c.E = E) (her : c.er = none) (ok : EOk c (runF ar n false false tm F t ds) m) :
    Ws c (gam N ds) m (denS tm (dnF K mg T E F)) (ndE (runF ar n false false tm F t ds) m) := by
  have e := run_eq (nox := false) (lam := false) (F := F) (t := t) (tm := tm) (n := n) (run_len ok.1)
  rw [e] at ok ⊢
  subst hN hK hm hT hE
  exact fn_ws (N := N) (c := c) (q := qOf F t false) (a := 0) (cls := .none) (d := none) (tm := tm) (ds := ds) (m := m) (sc_of ht her) ok
variable {b : Bool} {N ps : List Str} {k : Nat}
/-- a def that raises nothing -/
theorem okF0 (Fd : FunD K x qual params body scope dvs kws f fd) (sc : FnScope N ps scope) (hN : N.length = n) (hps : ps.length = ar) (ht : TabOk t K mg)
    (hder : ∀ (cdv : Value) (A : Around) (outer : List Env) (s : Shared) (H : Hp) (E : XK), RoomG b k (A.deeper (envOfC qual scope s.heap.objs.size f cdv)) → PSs (cxOf CX0 P w K mg base N qual scope f cdv A outer s H E).nox body (denS tm (dnF K mg T E0 F))) :
    FnG b P w K mg base CX0 (k + 1) f fd ps (spE K mg T (runF ar n true false tm F t)) :=
  okE0 Fd sc (fun ds m h => by rw [run_len h, hps]) (fun cdv A outer s H E hr => ⟨_, hder cdv A outer s H E hr, fun c hK hm hT hE her ds m hns _ => ws_nox hN ht hK hm hT hE her hns⟩) fun ds m h cn es m' z => run_calm h z
/-- a def that may raise -/
theorem okFX (Fd : FunD K x qual params body scope dvs kws f fd) (sc : FnScope N ps scope) (hN : N.length = n) (hps : ps.length = ar) (ht : TabOk t K mg)
    (hder : ∀ (cdv : Value) (A : Around) (outer : List Env) (s : Shared) (H : Hp) (E : XK), RoomG b k (A.deeper (envOfC qual scope s.heap.objs.size f cdv)) → PSs (cxOf (L2.CX P w) P w K mg base N qual scope f cdv A outer s H E) body (denS tm (dnF K mg T E F))) :
    FnG b P w K mg base (L2.CX P w) (k + 1) f fd ps (spE K mg T (runF ar n false false tm F t)) :=
  okEX Fd sc (fun ds m h => by rw [run_len h, hps]) fun cdv A outer s H E hr => ⟨_, hder cdv A outer s H E hr, fun c ds m hK hm hT hE her ok => ws_x hN ht hK hm hT hE her ok⟩
/-- a def that makes lambdas -/
theorem okFm (Fd : FunD K x qual params body scope dvs kws f fd) (sc : FnScope N ps scope) (hN : N.length = n) (hps : ps.length = ar) (ht : TabOk t K mg)
    (hder : ∀ (A : Around) (outer : List Env) (s : Shared) (H : Hp) (E : XK), RoomG b k (A.deeper (envOfC qual scope s.heap.objs.size f fd.code)) → PSs (cxOf CX0 P w K mg base N qual scope f fd.code A outer s H E).nox body (denS tm (dnF K mg T E0 F))) :
    FnG b P w K mg base CX0 (k + 1) f fd ps (spE K mg T (runF ar n true true tm F t)) :=
  okE0m Fd sc (fun ds m h => by rw [run_len h, hps]) (fun A outer s H E hr => ⟨_, hder A outer s H E hr, fun c hK hm hT hE her ds m hns _ => ws_nox hN ht hK hm hT hE her hns⟩) fun ds m h cn es m' z => run_calm h z
/-- .. with a star parameter, may raise -/
theorem okFXV {pv : Str} (Fd : FunD K x qual params body scope [] [] f fd) (sc : FnScope N (ps ++ [pv]) scope) (hN : N.length = n) (hps : ps.length + 1 = ar) (ht : TabOk t K mg) (hb : ∀ kV doc pm an cdv ct, BndV (PySem.W.fnOf x qual params body scope .none kV doc pm an cdv ct) ps pv)
    (hder : ∀ (cdv : Value) (A : Around) (outer : List Env) (s : Shared) (H : Hp) (E : XK), RoomG b k (A.deeper (envOfC qual scope s.heap.objs.size f cdv)) → PSs (cxOf (L2.CX P w) P w K mg base N qual scope f cdv A outer s H E) body (denS tm (dnF K mg T E F))) :
    FnQ b P w K mg base (L2.CX P w) (k + 1) f (spV ps.length (spE K mg T (runF ar n false false tm F t))) := by
  obtain ⟨oc, od, dV, kV, doc, pm, an, cdv, ct, osl, rfl, lk, hcd, hdf, _⟩ := Fd.ex
  have hdV : dV = .none := by
    rcases hdf with ⟨_, h⟩ | ⟨h, _⟩
    · exact h
    · exact absurd rfl h
  subst hdV
  exact fnQ_ofV (b := b) (k := k) (P := P) (w := w) (mg := mg) (base := base) (N := N) (sp := spE K mg T (runF ar n false false tm F t)) lk hcd sc (hb kV doc pm an cdv ct) (cxnew_x P w) fun A outer s H vs Q E hr hsp => ⟨_, hder cdv A outer s H E hr, spE_run (fun c ds m hK hm hT hE her ok => ws_x hN ht hK hm hT hE her ok) hsp⟩
/-- a method that says super(), may raise -/
theorem okFSX (Fs : FunS P K name qual params body scope D f fd) (sc : FnScopeS N ps scope) (et : EnvT scope params N x0) (noS : mg "super" = none) (top : (P.main.scope.names.lookup ("super" : Str)).isSome = false) (hN : N.length = n) (hps : ps.length = ar) (ht : TabOk t K mg)
    (hder : DerS P w K mg base (L2.CX P w) b k body D f fd N x0 fun E => denS tm (dnF K mg T E F)) :
    FnG b P w K mg base (L2.CX P w) (k + 1) f fd ps (spE K mg T (runF ar n false false tm F t)) := by
  obtain ⟨oc, od, kV, doc, pm, an, cda, ct, cc, osl, rfl, lk, hcd, ⟨cl, cld, csl, hc⟩, hco⟩ := id Fs.ex
  exact fnG_ofS lk hcd hc sc (fun vs H Q E h => spE_len (fun ds m h => by rw [run_len h, hps]) h) fun A outer s H vs Q E hr h => ⟨_, hder A outer s H E hr (Fs.env et noS top), spE_run (fun c ds m hK hm hT hE her ok => ws_x hN ht hK hm hT hE her ok) h⟩
/-- .. with a star parameter -/
theorem okFSXV {pv : Str} (Fs : FunS P K name qual params body scope D f fd) (sc : FnScopeS N (ps ++ [pv]) scope) (et : EnvT scope params N x0) (noS : mg "super" = none) (top : (P.main.scope.names.lookup ("super" : Str)).isSome = false) (hN : N.length = n) (hps : ps.length + 1 = ar) (ht : TabOk t K mg)
    (hb : ∀ kV doc pm an cdv ct cc, BndV (ksFn name qual params body scope .none kV doc pm an cdv ct cc) ps pv)
    (hder : DerS P w K mg base (L2.CX P w) b k body D f fd N x0 fun E => denS tm (dnF K mg T E F)) :
    FnQ b P w K mg base (L2.CX P w) (k + 1) f (spV ps.length (spE K mg T (runF ar n false false tm F t))) := by
  obtain ⟨oc, od, kV, doc, pm, an, cda, ct, cc, osl, rfl, lk, hcd, ⟨cl, cld, csl, hc⟩, hco⟩ := id Fs.ex
  exact fnQ_ofSV (b := b) (k := k) (P := P) (w := w) (mg := mg) (base := base) (N := N) (sp := spE K mg T (runF ar n false false tm F t)) lk hcd hc sc (hb kV doc pm an (.ref cda) ct cc) (cxnew_x P w) fun A outer s H vs Q E hr hsp => ⟨_, hder A outer s H E hr (Fs.env et noS top), spE_run (fun c ds m hK hm hT hE her ok => ws_x hN ht hK hm hT hE her ok) hsp⟩
/-- a method that says super() and raises nothing -/
theorem okFS0 (Fs : FunS P K name qual params body scope D f fd) (sc : FnScopeS N ps scope) (et : EnvT scope params N x0) (noS : mg "super" = none) (top : (P.main.scope.names.lookup ("super" : Str)).isSome = false) (hN : N.length = n) (hps : ps.length = ar) (ht : TabOk t K mg)
    (hder : DerS P w K mg base CX0 b k body D f fd N x0 fun _ => denS tm (dnF K mg T E0 F)) :
    FnG b P w K mg base CX0 (k + 1) f fd ps (spE K mg T (runF ar n true false tm F t)) := by
  obtain ⟨oc, od, kV, doc, pm, an, cda, ct, cc, osl, rfl, lk, hcd, ⟨cl, cld, csl, hc⟩, hco⟩ := id Fs.ex
  refine fnG_ofS lk hcd hc sc (fun vs H Q E h => spE_len (fun ds m h => by rw [run_len h, hps]) h) fun A outer s H vs Q E hr h => ⟨_, hder A outer s H E hr (Fs.env et noS top), ?_⟩
  obtain ⟨c, m, ds, e, L, da, hns, hq, hx⟩ := h
  exact spE_run (F := runF ar n true false tm F t) (T := T) (K := K) (mg := mg) (E := E0) (fun c ds' m' hK hm hT hE her ok => ws_nox hN ht hK hm hT hE her ok.1) ⟨c, m, ds, e, L, da, hns, hq, fun cn C x m H' fs es n' _ _ _ _ _ _ _ z => (run_calm hns z).elim⟩
/-- the law's rest -/
theorem law_ws {m N : Nat} (h : ∀ l : List Nat, l.length = N → ∃ l', evS tm (qOf F t true) (gam1 m) (l, []) = some (.ok (.rt (.bl true)), l')) (ht : TabOk t K mg) :
    ∀ c : Fc, c.K = K → c.mg = mg → c.T = T → c.er = none → c.E = E0 → Ws c (gam1 m) ⟨N, []⟩ (denS tm (dnF K mg T E0 F)) { nx := fun _ _ => False, rt := fun d _ => d = .bl true } := by
  intro c hK hm hT her hE
  subst hK hm hT
  have no : ∀ r m', Hit (evS tm (qOf F t true) (gam1 m)) ⟨N, []⟩ r m' → r = .ok (.rt (.bl true)) := fun r m' q => by
    obtain ⟨u, hu, e⟩ := q
    obtain ⟨l, hl⟩ := lens m'.n
    obtain ⟨l', e2⟩ := h (u ++ l) (app_len hu hl)
    have e3 := e l hl
    dsimp only at e3
    rw [e3] at e2
    cases e2
    rfl
  have ok : EOk c (evS tm (qOf F t true) (gam1 m)) ⟨N, []⟩ := ⟨fun l hl => let ⟨l', e⟩ := h l hl; ⟨_, e⟩, fun cn es m' q => by cases no _ _ q⟩
  have w := sound_s tm c (qOf F t true) 0 .none none (gam1 m) (sc_of ht her) ⟨N, []⟩ ok
  rw [show dnOf c (qOf F t true) 0 .none none = dnF c.K c.mg c.T E0 F by unfold dnOf; rw [hE]] at w
  exact w.mono (fun Γ' m' q => by cases no _ _ q) (fun e m' q => by have z := no _ _ q; injection z with z; injection z with z) (fun Γ' m' q => by cases no _ _ q) (fun Γ' m' q => by cases no _ _ q)
end
/-! ### star parameters, over data -/
def packD (n : Nat) (ds : List Dt) : List Dt := ds.take n ++ [.tup (ds.drop n)]
/-- an evaluation over the packed values -/
def pkE (n : Nat) (F : List Dt → Ev Dt) (ds : List Dt) : Ev Dt := if n ≤ ds.length ∧ szOk ds.length = true then F (packD n ds) else .stuck
section
variable {K : PySem.W.Frag} {mg : Str → Option Value} {T : List (Addr × Str)} {vs : List V} {H : Hp} {Q : VK} {E : XK} {n : Nat}
theorem spE_star {F : List Dt → Ev Dt} (h : spE K mg T (pkE n F) vs H Q E) : spV n (spE K mg T F) vs H Q E := by
  obtain ⟨c, m, ds, e, L, da, hns, hq, hx⟩ := h
  have hp := ns_pos (show NS (if n ≤ ds.length ∧ szOk ds.length = true then F (packD n ds) else .stuck) m from hns)
  have ef : pkE n F ds = F (packD n ds) := if_pos hp
  rw [ef] at hns hq hx
  have hl : vs.length = ds.length := da.length
  refine ⟨vs.take n, vs.drop n, (List.take_append_drop _ _).symm, by rw [List.length_take]; omega, ?_, fun p hp0 => ?_⟩
  · have := szl hp.2
    rw [List.length_drop]
    omega
  · have sm := same_new (o := HO.tup (vs.drop n)) hp0
    have xs : Sx c.a c.y H c.y (upd H p (.tup (vs.drop n))) := Sx.same sm
    have L2 := L.same sm
    refine ⟨c, m, packD n ds, e, L2, ?_, hns, ?_, ?_⟩
    · exact ((da.take n).keep (same_kp sm)).append (.cons (Da.newT L.live hp0 (da.drop n)) .nil)
    · intro m' v H' d n' x L' h1 hit
      exact hq m' v H' d n' (xs.trans x L'.na L'.dj) L' h1 hit
    · intro cn C ad m' H' fs es n' x L' h1 nx h2 h3 h4 hit
      exact hx cn C ad m' H' fs es n' (xs.trans x L'.na L'.dj) L' h1 nx h2 h3 h4 hit
end
end Pb
namespace Pb
open PySem PySem.Spec PyProof.Rows L2
open PySem.W (ksFn Frag)

/-! ### what a law's texts use -/
theorem ex_bl {x : Bool} {p : Bool → Prop} (h : p x) : ∃ b, Dt.bl x = .bl b ∧ p b := ⟨x, rfl, h⟩
theorem ex_int {x : Int} {p : Int → Prop} (h : p x) : ∃ b, Dt.int x = .int b ∧ p b := ⟨x, rfl, h⟩
theorem fr_by {sc : Scope} {x : Str} (h1 : ∀ p ∈ sc.names, p.2 = .free → p.1 = "__class__") (h : sc.names.lookup x = some .free) : x = "__class__" := h1 _ (PySem.mem_of_lookup h) rfl
theorem FnG.sealed {b : Bool} {P : Program} {w : World} {K : PySem.W.Frag} {mg : Str → Option Value} {T : List (Addr × Str)} {base : Heap} {CX : CXT} {k : Nat} {f : Addr} {fd : FuncData} {ps : List Str} {F : List Dt → Ev Dt} (h : FnG b P w K mg base CX k f fd ps (spE K mg T F)) : FnG b P w K mg base CX k f fd ps (spE K mg T fun ds => sealE (F ds)) := h.imp fun vs H Q E z => spE_seal z
theorem FnQ.star {b : Bool} {P : Program} {w : World} {K : PySem.W.Frag} {mg : Str → Option Value} {T : List (Addr × Str)} {base : Heap} {CX : CXT} {k n : Nat} {f : Addr} {F : List Dt → Ev Dt} (h : FnQ b P w K mg base CX k f (spV n (spE K mg T F))) : FnQ b P w K mg base CX k f (spE K mg T (pkE n F)) := h.imp fun vs H Q E z => spE_star z
section
variable {c : Fc} {Γ : List Sl} {n : Cs} {k : Kd} {ta tb : TE} {tl : TA} {N : Nd}
theorem w_lst (h : Wa c Γ n tl fun ds n1 => szOk ds.length = true ∧ k (.lst ds) n1) : We c Γ n (tLst tl) k := (wn_lst h).tree
theorem w_opD {r : R2} (h : We c Γ n ta fun d1 n1 => We c Γ n1 tb fun d2 n2 => ∀ y, R2D (c.at_ y) n2.n r d1 d2 fun d => k d n2) : We c Γ n (tOp r ta tb) k := w_op (h.mono fun d1 n1 q => q.mono fun d2 n2 q2 => r2_of q2)
theorem w_unD {r : V → Hp → VK → Prop} (h : We c Γ n ta fun d1 n1 => ∀ y, R1D (c.at_ y) r d1 fun d => k d n1) : We c Γ n (tUn r ta) k := w_un (h.mono fun d1 n1 q => r1_of q)
theorem w_cbD {r : List V → Hp → VK → Prop} (h : Wa c Γ n tl fun ds n1 => ∀ y, RCD (c.at_ y) r ds n1.n fun d _ => k d n1) : We c Γ n (tCB r tl) k := w_cb (h.mono fun d1 n1 q => rp_of q)
/-- the script in the pen -/
theorem w_pen0 {j : Nat} (hj : Γ[j]? = some (Sl.da .pen)) (h : c.ns.length ≤ 63 → k (.lst (c.ns.map Dt.int)) n) : We c Γ n (tOp (rIx c.K) (tVar j) (tC (.int 0))) k :=
  w_op (w_var hj (w_int (r2_of fun y => r_ixP0 (c := c.at_ y) fun hl => h hl)))
end
theorem u1 {a b : Nat} (h : a + 64 < b) : a + 1 < b := by omega
end Pb
namespace Pb
open PySem PySem.Spec PyProof.Rows L2

@[simp] theorem evE_var (i : _) (q : Qc) (Γ : List Sl) : evE (Te.var i) q Γ = .of (varE Γ i) := rfl
@[simp] theorem evE_non  (q : Qc) (Γ : List Sl) : evE (Te.non ) q Γ = .pure .non := rfl
@[simp] theorem evE_bl (b : _) (q : Qc) (Γ : List Sl) : evE (Te.bl b) q Γ = .pure (.bl b) := rfl
@[simp] theorem evE_int (i : _) (q : Qc) (Γ : List Sl) : evE (Te.int i) q Γ = .pure (.int i) := rfl
@[simp] theorem evE_str (x : _) (q : Qc) (Γ : List Sl) : evE (Te.str x) q Γ = .pure (.str x) := rfl
@[simp] theorem evE_op (o : _) (a : _) (b : _) (q : Qc) (Γ : List Sl) : evE (Te.op o a b) q Γ = (evE a q Γ).bind fun d => (evE b q Γ).bind fun e => .ask fun s => o.ev (dr s d) (dr s e) := rfl
@[simp] theorem evE_neg (a : _) (q : Qc) (Γ : List Sl) : evE (Te.neg a) q Γ = (evE a q Γ).bind fun d => match d with | .int i => .pure (.int (-i)) | _ => .stuck := rfl
@[simp] theorem evE_not_ (a : _) (q : Qc) (Γ : List Sl) : evE (Te.not_ a) q Γ = (evE a q Γ).bind fun d => (Ev.ask fun s => truD (dr s d)).bind fun b => .pure (.bl (!b)) := rfl
@[simp] theorem evE_and_ (a : _) (b : _) (q : Qc) (Γ : List Sl) : evE (Te.and_ a b) q Γ = (evE a q Γ).bind fun d => (Ev.ask fun s => truD (dr s d)).bind fun t => if t = true then evE b q Γ else .pure d := rfl
@[simp] theorem evE_or_ (a : _) (b : _) (q : Qc) (Γ : List Sl) : evE (Te.or_ a b) q Γ = (evE a q Γ).bind fun d => (Ev.ask fun s => truD (dr s d)).bind fun t => if t = true then .pure d else evE b q Γ := rfl
@[simp] theorem evE_ifx (t : _) (a : _) (b : _) (q : Qc) (Γ : List Sl) : evE (Te.ifx t a b) q Γ = (evT t q Γ).bind fun t => if t = true then evE a q Γ else evE b q Γ := rfl
@[simp] theorem evE_lst (as : _) (q : Qc) (Γ : List Sl) : evE (Te.lst as) q Γ = (evA as q Γ).bind fun ds => if szOk ds.length = true then .pure (.lst ds) else .stuck := rfl
@[simp] theorem evE_tup (as : _) (q : Qc) (Γ : List Sl) : evE (Te.tup as) q Γ = (evA as q Γ).bind fun ds => if szOk ds.length = true then .pure (.tup ds) else .stuck := rfl
@[simp] theorem evE_dnew  (q : Qc) (Γ : List Sl) : evE (Te.dnew ) q Γ = .pure (.dic [] []) := rfl
@[simp] theorem evE_disp (ps : _) (q : Qc) (Γ : List Sl) : evE (Te.disp ps) q Γ = (evP ps q Γ).bind fun kd => if kd.1.Nodup ∧ kd.1.length ≤ 15 then .pure (.dic kd.1 kd.2) else .stuck := rfl
@[simp] theorem evE_nw (a : _) (q : Qc) (Γ : List Sl) : evE (Te.nw a) q Γ = (evN a q Γ).bind Ev.new := rfl
@[simp] theorem evE_sl (a : _) (lo : _) (hi : _) (q : Qc) (Γ : List Sl) : evE (Te.sl a lo hi) q Γ = (evE a q Γ).bind fun d => (evO lo q Γ).bind fun lo => (evO hi q Γ).bind fun hi => .ask fun s => slE (dr s d) lo hi := rfl
@[simp] theorem evE_rev (a : _) (q : Qc) (Γ : List Sl) : evE (Te.rev a) q Γ = (evE a q Γ).bind fun d => .ask fun s => revE (dr s d) := rfl
@[simp] theorem evE_chain (o : _) (p : _) (a : _) (b : _) (c : _) (q : Qc) (Γ : List Sl) : evE (Te.chain o p a b c) q Γ = (evE a q Γ).bind fun x => (evE b q Γ).bind fun y => (Ev.ask fun s => o.ev (dr s x) (dr s y)).bind fun r => match r with
    | .bl t => if t = true then (evE c q Γ).bind fun z => .ask fun s => p.ev (dr s y) (dr s z) else .pure (.bl false)
    | _ => .stuck := rfl
@[simp] theorem evE_call (e : _) (f : _) (as : _) (q : Qc) (Γ : List Sl) : evE (Te.call e f as) q Γ = (evA as q Γ).bind fun ds => selF e (q.f f ds) := rfl
@[simp] theorem evE_callK (e : _) (f : _) (na : _) (nk : _) (as : _) (ks : _) (q : Qc) (Γ : List Sl) : evE (Te.callK e f na nk as ks) q Γ = (evA as q Γ).bind fun ds => (evA ks q Γ).bind fun es => if ds.length = na ∧ es.length = nk then selF e (q.f f (ds ++ es)) else .stuck := rfl
@[simp] theorem evE_callP (e : _) (f : _) (na : _) (nk : _) (ix : _) (as : _) (ks : _) (q : Qc) (Γ : List Sl) : evE (Te.callP e f na nk ix as ks) q Γ = (evA as q Γ).bind fun ds => (evA ks q Γ).bind fun es => if ds.length = na ∧ es.length = nk then selF e (q.f f (gPm ix ds es)) else .stuck := rfl
@[simp] theorem evE_blt (b : _) (as : _) (q : Qc) (Γ : List Sl) : evE (Te.blt b as) q Γ = (evA as q Γ).bind fun ds => .ask fun s => b.ev (ds.map (dr s)) := rfl
@[simp] theorem evE_isi (T : _) (a : _) (q : Qc) (Γ : List Sl) : evE (Te.isi T a) q Γ = (evE a q Γ).bind fun d => .ask fun s => isiE T (dr s d) := rfl
@[simp] theorem evE_isiTL (a : _) (q : Qc) (Γ : List Sl) : evE (Te.isiTL a) q Γ = (evE a q Γ).bind fun d => .ask fun s => (dr s d).tn.map fun t => .bl (t.sub .tuple || t.sub .list) := rfl
@[simp] theorem evE_join (a : _) (b : _) (q : Qc) (Γ : List Sl) : evE (Te.join a b) q Γ = (evE a q Γ).bind fun d => (Ev.of (strE d)).bind fun z => (evE b q Γ).bind fun e => .ask fun s => joinE z (dr s e) := rfl
@[simp] theorem evE_split (a : _) (b : _) (q : Qc) (Γ : List Sl) : evE (Te.split a b) q Γ = (evE a q Γ).bind fun d => (Ev.of (strE d)).bind fun z => (evE b q Γ).bind fun e => .of (splitE z e) := rfl
@[simp] theorem evE_lc (it : _) (g : _) (tt : _) (el : _) (q : Qc) (Γ : List Sl) : evE (Te.lc it g tt el) q Γ = (evI it q Γ).bind fun ds => if szOk ds.1.length = true then (evLc ds.2 (fun d => (Ev.of (evG g d (wipeG Γ g.js))).bind fun Γ2 => (evT tt q Γ2).bind fun b => if b = true then (evE el q Γ2).bind fun e => .pure (some e) else .pure none) ds.1 []).bind fun es => .pure (.lst es) else .stuck := rfl
@[simp] theorem evE_hear (ex : _) (i : _) (j : _) (len : _) (rest : _) (body : _) (q : Qc) (Γ : List Sl) : evE (Te.hear ex i j len rest body) q Γ = if q.lam = true ∧ i ≠ j ∧ j < len then (evE body q Γ).catch_ (fun v => .pure (.lst [v])) (fun cn es => if q.exm cn ex = true ∧ Dt.nrfs (es.map (·.2)) = true then hideE (((evS rest { q with hd := true, lam := false, f := fun _ _ => .stuck } (gamE len j cn es)).bind retH).calm) else .stuck) else .stuck := rfl
@[simp] theorem evE_isH (C : _) (a : _) (q : Qc) (Γ : List Sl) : evE (Te.isH C a) q Γ = if q.hd = true then (evE a q Γ).bind fun d => match d with
    | .err cn _ _ => (Ev.of (q.isa cn C)).bind fun b => .pure (.bl b)
    | _ => .stuck else .stuck := rfl
@[simp] theorem evE_hvf (f : _) (a : _) (q : Qc) (Γ : List Sl) : evE (Te.hvf f a) q Γ = if q.hd = true then (evE a q Γ).bind fun d => match d with
    | .err cn ns ds => if q.fld cn f = true then .of ((ns.zip ds).lookup f) else .stuck
    | _ => .stuck else .stuck := rfl
@[simp] theorem evE_at_ (f : _) (cs : _) (a : _) (q : Qc) (Γ : List Sl) : evE (Te.at_ f cs a) q Γ = (evE a q Γ).bind fun d => (drE d).bind (atE q.rai q.f f cs d) := rfl
@[simp] theorem evE_me (e : _) (m : _) (cs : _) (a : _) (as : _) (q : Qc) (Γ : List Sl) : evE (Te.me e m cs a as) q Γ = (evE a q Γ).bind fun d => (drE d).bind (meE q.rai q.f e m cs (evA as q Γ) d) := rfl
@[simp] theorem evE_mk (e : _) (cn : _) (id : _) (na : _) (nk : _) (ix : _) (as : _) (ks : _) (q : Qc) (Γ : List Sl) : evE (Te.mk e cn id na nk ix as ks) q Γ = if q.rai cn = true then (evA as q Γ).bind fun ds => (evA ks q Γ).bind fun es => if ds.length = na ∧ es.length = nk then mkE q.f e cn id (gPm ix ds es) else .stuck else .stuck := rfl
@[simp] theorem evE_isq (b : _) (a : _) (q : Qc) (Γ : List Sl) : evE (Te.isq b a) q Γ = (evE a q Γ).bind fun d => .ask fun s => ((dr s d).cq.bind fun a => q.kit a b).map Dt.bl := rfl
@[simp] theorem evE_isqT (b : _) (bs : _) (a : _) (q : Qc) (Γ : List Sl) : evE (Te.isqT b bs a) q Γ = if szOk (b :: bs).length = true then (evE a q Γ).bind fun d => .ask fun s => ((dr s d).cq.bind fun a => kitL (q.kit a) (b :: bs)).map Dt.bl else .stuck := rfl
@[simp] theorem evE_eqO (ne : _) (cs : _) (a : _) (b : _) (q : Qc) (Γ : List Sl) : evE (Te.eqO ne cs a b) q Γ = (evE a q Γ).bind fun d => (evE b q Γ).bind fun e => (drE d).bind fun d' => (drE e).bind fun e' => eqAE q.rai q.f q.nf ne cs d e d' e' := rfl
@[simp] theorem evE_su (e : _) (i : _) (cs : _) (as : _) (q : Qc) (Γ : List Sl) : evE (Te.su e i cs as) q Γ = (Ev.of (varE Γ i)).bind fun d => (drE d).bind (suE q.rai q.f e cs (evA as q Γ) d) := rfl
@[simp] theorem evE_bm (m : _) (a : _) (as : _) (q : Qc) (Γ : List Sl) : evE (Te.bm m a as) q Γ = (evE a q Γ).bind fun d => (Ev.ask fun s => isLst s d).bind fun i => (evA as q Γ).bind fun es => .upd (bmE m i es) := rfl
@[simp] theorem evE_bm0 (m : _) (a : _) (q : Qc) (Γ : List Sl) : evE (Te.bm0 m a) q Γ = (evE a q Γ).bind fun d => (Ev.ask fun s => isLst s d).bind fun i => .upd (bmE m i []) := rfl
@[simp] theorem evE_get1 (a : _) (b : _) (q : Qc) (Γ : List Sl) : evE (Te.get1 a b) q Γ = (evE a q Γ).bind fun d => (Ev.ask fun s => isDic s d).bind fun _ => (evE b q Γ).bind fun e => .ask (getE d e .non) := rfl
@[simp] theorem evE_get2 (a : _) (b : _) (x : _) (q : Qc) (Γ : List Sl) : evE (Te.get2 a b x) q Γ = (evE a q Γ).bind fun d => (Ev.ask fun s => isDic s d).bind fun _ => (evE b q Γ).bind fun e => (evE x q Γ).bind fun x => .ask (getE d e x) := rfl
@[simp] theorem evE_sld (a : _) (q : Qc) (Γ : List Sl) : evE (Te.sld a) q Γ = sealE (evE a q Γ) := rfl
@[simp] theorem evN_op (o : _) (a : _) (b : _) (q : Qc) (Γ : List Sl) : evN (Te.op o a b) q Γ = (evE a q Γ).bind fun d => (evE b q Γ).bind fun e => .ask fun s => o.evN (dr s d) (dr s e) := rfl
@[simp] theorem evN_lst (as : _) (q : Qc) (Γ : List Sl) : evN (Te.lst as) q Γ = (evA as q Γ).bind fun ds => if szOk ds.length = true then .pure (.lst ds) else .stuck := rfl
@[simp] theorem evN_dnew  (q : Qc) (Γ : List Sl) : evN (Te.dnew ) q Γ = .pure (.dic [] []) := rfl
@[simp] theorem evN_disp (ps : _) (q : Qc) (Γ : List Sl) : evN (Te.disp ps) q Γ = (evP ps q Γ).bind fun kd => if kd.1.Nodup ∧ kd.1.length ≤ 15 then .pure (.dic kd.1 kd.2) else .stuck := rfl
@[simp] theorem evN_sl (a : _) (lo : _) (hi : _) (q : Qc) (Γ : List Sl) : evN (Te.sl a lo hi) q Γ = (evE a q Γ).bind fun d => (evO lo q Γ).bind fun lo => (evO hi q Γ).bind fun hi => .ask fun s => slN (dr s d) lo hi := rfl
@[simp] theorem evN_blt (b : _) (as : _) (q : Qc) (Γ : List Sl) : evN (Te.blt b as) q Γ = (evA as q Γ).bind fun ds => .ask fun s => b.evN (ds.map (dr s)) := rfl
@[simp] theorem evN_split (a : _) (b : _) (q : Qc) (Γ : List Sl) : evN (Te.split a b) q Γ = (evE a q Γ).bind fun d => (Ev.of (strE d)).bind fun z => (evE b q Γ).bind fun e => .of (splitE z e) := rfl
@[simp] theorem evN_lc (it : _) (g : _) (tt : _) (el : _) (q : Qc) (Γ : List Sl) : evN (Te.lc it g tt el) q Γ = (evI it q Γ).bind fun ds => if szOk ds.1.length = true then (evLc ds.2 (fun d => (Ev.of (evG g d (wipeG Γ g.js))).bind fun Γ2 => (evT tt q Γ2).bind fun b => if b = true then (evE el q Γ2).bind fun e => .pure (some e) else .pure none) ds.1 []).bind fun es => .pure (.lst es) else .stuck := rfl
@[simp] theorem evA_nil  (q : Qc) (Γ : List Sl) : evA (Ta.nil ) q Γ = .pure [] := rfl
@[simp] theorem evA_cons (a : _) (as : _) (q : Qc) (Γ : List Sl) : evA (Ta.cons a as) q Γ = (evE a q Γ).bind fun d => (evA as q Γ).bind fun ds => .pure (d :: ds) := rfl
@[simp] theorem evP_nil  (q : Qc) (Γ : List Sl) : evP (Tp.nil ) q Γ = .pure ([], []) := rfl
@[simp] theorem evP_cons (k : _) (v : _) (ps : _) (q : Qc) (Γ : List Sl) : evP (Tp.cons k v ps) q Γ = (evE k q Γ).bind fun d => (Ev.of (keyD d)).bind fun key => (evE v q Γ).bind fun e => (evP ps q Γ).bind fun kd => .pure (key :: kd.1, e :: kd.2) := rfl
@[simp] theorem evT_test (a : _) (q : Qc) (Γ : List Sl) : evT (Tt.test a) q Γ = (evE a q Γ).bind fun d => match d with | .bl b => .pure b | _ => .stuck := rfl
@[simp] theorem evT_tr (a : _) (q : Qc) (Γ : List Sl) : evT (Tt.tr a) q Γ = (evE a q Γ).bind fun d => .ask fun s => truD (dr s d) := rfl
@[simp] theorem evT_and_ (a : _) (b : _) (q : Qc) (Γ : List Sl) : evT (Tt.and_ a b) q Γ = (evT a q Γ).bind fun t => if t = true then evT b q Γ else .pure false := rfl
@[simp] theorem evT_or_ (a : _) (b : _) (q : Qc) (Γ : List Sl) : evT (Tt.or_ a b) q Γ = (evT a q Γ).bind fun t => if t = true then .pure true else evT b q Γ := rfl
@[simp] theorem evT_not_ (a : _) (q : Qc) (Γ : List Sl) : evT (Tt.not_ a) q Γ = (evT a q Γ).bind fun t => .pure (!t) := rfl
@[simp] theorem evT_yes  (q : Qc) (Γ : List Sl) : evT (Tt.yes ) q Γ = .pure true := rfl
@[simp] theorem evO_none  (q : Qc) (Γ : List Sl) : evO (To.none ) q Γ = .pure none := rfl
@[simp] theorem evO_some (a : _) (q : Qc) (Γ : List Sl) : evO (To.some a) q Γ = (evE a q Γ).bind fun d => match d with | .int i => .pure (some i) | _ => .stuck := rfl
@[simp] theorem evI_sq (a : _) (q : Qc) (Γ : List Sl) : evI (Ti.sq a) q Γ = (evE a q Γ).bind fun d => .ask fun s => seqS s d := rfl
theorem evI_rng1 (as : _) (q : Qc) (Γ : List Sl) : evI (Ti.rng1 as) q Γ = (evA as q Γ).bind fun ds => match ds with
    | [.int j] => if rOk j = true then .pure (upTo 0 j.toNat, none) else .stuck
    | _ => .stuck := rfl
theorem evI_rng2 (as : _) (q : Qc) (Γ : List Sl) : evI (Ti.rng2 as) q Γ = (evA as q Γ).bind fun ds => match ds with
    | [.int i, .int j] => if rOk i = true ∧ rOk j = true then .pure (upTo i (j - i).toNat, none) else .stuck
    | _ => .stuck := rfl
@[simp] theorem evS_seq (a : _) (b : _) (q : Qc) (Γ : List Sl) : evS (Ts.seq a b) q Γ = (evS a q Γ).bind fun r => match r with | .nx Γ' => evS b q Γ' | r => .pure r := rfl
@[simp] theorem evS_asg (i : _) (a : _) (q : Qc) (Γ : List Sl) : evS (Ts.asg i a) q Γ = (evE a q Γ).bind fun d => .pure (.nx (Γ.set i (.da d))) := rfl
@[simp] theorem evS_asgG (is : _) (a : _) (q : Qc) (Γ : List Sl) : evS (Ts.asgG is a) q Γ = (evE a q Γ).bind fun d => (Ev.of (evG (.tup is) d Γ)).bind fun Γ' => .pure (.nx Γ') := rfl
@[simp] theorem evS_ret (a : _) (q : Qc) (Γ : List Sl) : evS (Ts.ret a) q Γ = (evE a q Γ).bind fun d => .pure (.rt d) := rfl
@[simp] theorem evS_retN  (q : Qc) (Γ : List Sl) : evS (Ts.retN ) q Γ = .pure (.rt .non) := rfl
@[simp] theorem evS_ifS (t : _) (a : _) (b : _) (q : Qc) (Γ : List Sl) : evS (Ts.ifS t a b) q Γ = (evT t q Γ).bind fun t => if t = true then evS a q Γ else evS b q Γ := rfl
@[simp] theorem evS_for_ (it : _) (g : _) (b : _) (q : Qc) (Γ : List Sl) : evS (Ts.for_ it g b) q Γ = (evI it q Γ).bind fun ds => evFor ds.2 (fun d Γ' => (Ev.of (evG g d Γ')).bind fun Γ2 => evS b q Γ2) ds.1 Γ := rfl
theorem evS_while_ (fuel : _) (t : _) (b : _) (q : Qc) (Γ : List Sl) : evS (Ts.while_ fuel t b) q Γ = evWh (fun Γ => evT t q Γ) (fun Γ => evS b q Γ) fuel Γ := rfl
@[simp] theorem evS_next  (q : Qc) (Γ : List Sl) : evS (Ts.next ) q Γ = .pure (.nx Γ) := rfl
@[simp] theorem evS_brk  (q : Qc) (Γ : List Sl) : evS (Ts.brk ) q Γ = .pure (.bk Γ) := rfl
@[simp] theorem evS_cont  (q : Qc) (Γ : List Sl) : evS (Ts.cont ) q Γ = .pure (.ct Γ) := rfl
@[simp] theorem evS_drop (a : _) (q : Qc) (Γ : List Sl) : evS (Ts.drop a) q Γ = (evE a q Γ).bind fun _ => .pure (.nx Γ) := rfl
@[simp] theorem evS_rais (cn : _) (f : _) (a : _) (q : Qc) (Γ : List Sl) : evS (Ts.rais cn f a) q Γ = if q.rai cn = true then (evE a q Γ).bind fun d => .rais cn [(f, d)] else .stuck := rfl
@[simp] theorem evS_par (i : _) (j : _) (a : _) (b : _) (q : Qc) (Γ : List Sl) : evS (Ts.par i j a b) q Γ = (evE a q Γ).bind fun d => (evE b q Γ).bind fun e => .pure (.nx ((Γ.set i (.da d)).set j (.da e))) := rfl
@[simp] theorem evS_setF (a : _) (f : _) (e : _) (q : Qc) (Γ : List Sl) : evS (Ts.setF a f e) q Γ = (evE e q Γ).bind fun d => (evE a q Γ).bind fun a => (Ev.upd (setFE (fun cn => q.sf cn f) f a d)).bind fun _ => .pure (.nx Γ) := rfl
@[simp] theorem evS_augF (a : _) (f : _) (o : _) (e : _) (q : Qc) (Γ : List Sl) : evS (Ts.augF a f o e) q Γ = (evE a q Γ).bind fun a => (Ev.ask (augGet (fun cn => q.sf cn f) f a)).bind fun d0 => (evE e q Γ).bind fun d => (Ev.ask fun s => o.ev (dr s d0.2) (dr s d)).bind fun z => (Ev.upd (setFE (fun cn => decide (cn = d0.1)) f a z)).bind fun _ => .pure (.nx Γ) := rfl
@[simp] theorem evS_setI (a : _) (i : _) (e : _) (q : Qc) (Γ : List Sl) : evS (Ts.setI a i e) q Γ = (evE e q Γ).bind fun d => (evE a q Γ).bind fun a => (evE i q Γ).bind fun i => (Ev.upd (setIE a i d)).bind fun _ => .pure (.nx Γ) := rfl
section
variable {α β : Type} {p : Prop} [Decidable p]
@[simp] theorem Ev.bind_pure (f : Ev α) : (f.bind fun a => Ev.pure a) = f := by
  funext l
  unfold Ev.bind
  cases f l with
  | none => rfl
  | some x => obtain ⟨r, l'⟩ := x; cases r <;> rfl
@[simp] theorem Ev.bind_pure' (f : Ev α) : f.bind Ev.pure = f := Ev.bind_pure f
@[simp] theorem Ev.ite_bind (f g : Ev α) (h : α → Ev β) : (if p then f else g).bind h = if p then f.bind h else g.bind h := by split <;> rfl
@[simp] theorem Ev.ite_calm (f g : Ev α) : (if p then f else g).calm = if p then f.calm else g.calm := by split <;> rfl
theorem Ev.ite_pure (a b : α) : (if p then Ev.pure a else Ev.pure b) = Ev.pure (if p then a else b) := by split <;> rfl
@[simp] theorem Ev.calm_bind_pure (f : Ev α) (h : α → β) : (f.bind fun a => Ev.pure (h a)).calm = f.calm.bind fun a => Ev.pure (h a) := by
  funext l
  simp only [Ev.calm, Ev.bind]
  cases f l with
  | none => rfl
  | some x => obtain ⟨r, l'⟩ := x; cases r <;> rfl
@[simp] theorem Ev.calm_calm (f : Ev α) : f.calm.calm = f.calm := by
  funext l
  simp only [Ev.calm]
  cases f l with
  | none => rfl
  | some x => obtain ⟨r, l'⟩ := x; cases r <;> rfl
@[simp] theorem Ev.calm_rais (cn : Str) (es : List (Str × Dt)) : (Ev.rais cn es : Ev α).calm = Ev.stuck := rfl
@[simp] theorem Ev.ite_catch (f g : Ev α) (h : α → Ev β) (k : Str → List (Str × Dt) → Ev β) : (if p then f else g).catch_ h k = if p then f.catch_ h k else g.catch_ h k := by split <;> rfl
theorem Ev.calm_bind (f : Ev α) (h : α → Ev β) : (f.bind h).calm = f.calm.bind fun a => (h a).calm := by
  funext l
  simp only [Ev.calm, Ev.bind]
  cases f l with
  | none => rfl
  | some x => obtain ⟨r, l'⟩ := x; cases r <;> rfl
end
@[simp] theorem qOf_f (f : Nat → List Dt → Ev Dt) (t : Tab) (b : Bool) : (qOf f t b).f = f := rfl
@[simp] theorem seq_nx (q : Qc) (b : Ts) (Γ : List Sl) : (match Fl.nx Γ with | .nx Γ' => evS b q Γ' | r => Ev.pure r) = evS b q Γ := rfl
@[simp] theorem retE_nx (Γ : List Sl) : retE (.nx Γ) = .pure .non := rfl
@[simp] theorem retE_rt (d : Dt) : retE (.rt d) = .pure d := rfl
@[simp] theorem szOk_iff (n : Nat) : (szOk n = true) = (n ≤ 16777216) := by
  unfold szOk
  exact propext ⟨Nat.le_of_ble_eq_true, Nat.ble_eq_true_of_le⟩
@[simp] theorem szLt_iff (n : Nat) : (szLt n = true) = (n < 16777216) := by
  unfold szLt
  exact propext ⟨fun h => Nat.le_of_ble_eq_true h, fun h => Nat.ble_eq_true_of_le h⟩
@[simp] theorem truD_bl (b : Bool) : truD (.bl b) = some b := rfl
@[simp] theorem truD_non : truD .non = some false := rfl
@[simp] theorem truD_int (i : Int) : truD (.int i) = some (i != 0) := rfl
@[simp] theorem truD_lst (ds : List Dt) : truD (.lst ds) = some (!ds.isEmpty) := rfl
@[simp] theorem truD_tup (ds : List Dt) : truD (.tup ds) = some (!ds.isEmpty) := rfl
@[simp] theorem revE_lst (ds : List Dt) : revE (.lst ds) = some (.lst ds.reverse) := rfl
@[simp] theorem revE_tup (ds : List Dt) : revE (.tup ds) = some (.tup ds.reverse) := rfl
@[simp] theorem evG_name (i : Nat) (d : Dt) (Γ : List Sl) : evG (.name i) d Γ = some (Γ.set i (.da d)) := rfl
@[simp] theorem js_name (i : Nat) : (Tg.name i).js = [i] := rfl
@[simp] theorem js_tup (is : List Nat) : (Tg.tup is).js = is := rfl
section
variable (i j : Int) (x y : Str) (d e : Dt) (xs ys : List Dt)
@[simp] theorem o_addI : O2.ev .add (.int i) (.int j) = some (.int (i + j)) := rfl
@[simp] theorem o_addS : O2.ev .add (.str x) (.str y) = if szOk (x.length + y.length) then some (.str (x ++ y)) else none := rfl
@[simp] theorem o_addL : O2.ev .add (.lst xs) (.lst ys) = if szOk (xs.length + ys.length) then some (.lst (xs ++ ys)) else none := rfl
@[simp] theorem o_addT : O2.ev .add (.tup xs) (.tup ys) = if szOk (xs.length + ys.length) then some (.tup (xs ++ ys)) else none := rfl
@[simp] theorem o_subI : O2.ev .sub (.int i) (.int j) = some (.int (i - j)) := rfl
theorem o_mulI : O2.ev .mul (.int i) (.int j) = if cmulB i j then some (.int (i * j)) else none := rfl
theorem o_mulL (m : Int) : O2.ev .mul (.lst xs) (.int m) = if decide (-(2 ^ 63) ≤ m) && decide (m < 2 ^ 63) && szOk (xs.length * m.toNat) then some (.lst (List.replicate m.toNat xs).flatten) else none := rfl
theorem o_mulT (m : Int) : O2.ev .mul (.tup xs) (.int m) = if decide (1 ≤ m) && decide (m ≤ 1000) && (!xs.isEmpty && decide (xs.length ≤ 1000)) then some (.tup (List.replicate m.toNat xs).flatten) else none := rfl
@[simp] theorem o_modI : O2.ev .mod (.int i) (.int j) = if 0 < j then some (.int (i % j)) else none := rfl
@[simp] theorem o_divI : O2.ev .div (.int i) (.int j) = if 0 < j ∧ j < 1073741824 then some (.int (i / j)) else none := rfl
theorem o_powI : O2.ev .pow (.int i) (.int j) = if 0 ≤ j ∧ j ≤ 1000000 ∧ i.natAbs < 2 ^ 64 then some (.int (i ^ j.toNat)) else none := rfl
@[simp] theorem o_ltI : O2.ev .lt (.int i) (.int j) = some (.bl (decide (i < j))) := rfl
@[simp] theorem o_ltS : O2.ev .lt (.str x) (.str y) = some (.bl (decide (x.cps.toList < y.cps.toList))) := rfl
theorem o_ltT : O2.ev .lt (.tup xs) (.tup ys) = (intsE xs).bind fun xs => (intsE ys).map fun ys => .bl (HT.lexLt xs ys) := rfl
@[simp] theorem o_leI : O2.ev .le (.int i) (.int j) = some (.bl (decide (i ≤ j))) := rfl
@[simp] theorem o_gtI : O2.ev .gt (.int i) (.int j) = some (.bl (decide (j < i))) := rfl
@[simp] theorem o_geI : O2.ev .ge (.int i) (.int j) = some (.bl (decide (j ≤ i))) := rfl
@[simp] theorem o_eqX : O2.ev .eq d e = (eqE d e).map Dt.bl := rfl
@[simp] theorem o_neX : O2.ev .ne d e = (eqE d e).map fun b => .bl (!b) := rfl
@[simp] theorem o_inX : O2.ev .in_ d e = (inE d e).map Dt.bl := rfl
@[simp] theorem o_ninX : O2.ev .nin d e = (inE d e).map fun b => .bl (!b) := rfl
@[simp] theorem o_isX : O2.ev .is_ d .non = some (.bl (match d with | .non => true | _ => false)) := by cases d <;> rfl
@[simp] theorem o_isnX : O2.ev .isn d .non = some (.bl (match d with | .non => false | _ => true)) := by cases d <;> rfl
@[simp] theorem o_ixL : O2.ev .ix (.lst xs) (.int i) = atI xs i := rfl
@[simp] theorem o_ixT : O2.ev .ix (.tup xs) (.int i) = atI xs i := rfl
@[simp] theorem o_ixS : O2.ev .ix (.str x) (.int i) = if szOk x.length then (atI x.cps.toList i).map fun s => .str ⟨#[s]⟩ else none := rfl
@[simp] theorem b_lenL : Bl.ev .len [.lst xs] = some (.int xs.length) := rfl
@[simp] theorem b_lenT : Bl.ev .len [.tup xs] = some (.int xs.length) := rfl
@[simp] theorem b_lenS : Bl.ev .len [.str x] = if szOk x.length then some (.int x.length) else none := rfl
@[simp] theorem b_lenD (ks : List Key) : Bl.ev .len [.dic ks xs] = some (.int ks.length) := rfl
@[simp] theorem b_intI : Bl.ev .int [.int i] = some (.int i) := rfl
@[simp] theorem b_intB (b : Bool) : Bl.ev .int [.bl b] = some (.int (if b then 1 else 0)) := rfl
@[simp] theorem b_intS : Bl.ev .int [.str x] = if x.length ≤ 640 then (PySem.intText? x).map Dt.int else none := rfl
@[simp] theorem b_listL : Bl.ev .list [.lst xs] = some (.lst xs) := rfl
@[simp] theorem b_listT : Bl.ev .list [.tup xs] = some (.lst xs) := rfl
@[simp] theorem b_tupleL : Bl.ev .tuple [.lst xs] = some (.tup xs) := rfl
@[simp] theorem b_tupleT : Bl.ev .tuple [.tup xs] = some (.tup xs) := rfl
@[simp] theorem b_strI : Bl.ev .str [.int i] = if i.natAbs.log2 < 1920 then some (.str (toString i)) else none := rfl
@[simp] theorem b_strS : Bl.ev .str [.str x] = some (.str x) := rfl
@[simp] theorem b_allL : Bl.ev .all [.lst xs] = (blsE xs).map fun bs => .bl (bs.all id) := rfl
theorem b_reprD : Bl.ev .repr [d] = if d.ro 20 && decide (d.rw ≤ 16777216) then some (.str d.sh) else none := rfl
end

/-! asking, with the cells in sight -/
section
variable {α β : Type} {p : Prop} [Decidable p]
@[simp] theorem Ev.ask_some (a : α) : (Ev.ask fun _ => some a) = Ev.pure a := rfl
@[simp] theorem Ev.ask_none : (Ev.ask fun _ => (none : Option α)) = Ev.stuck := rfl
@[simp] theorem Ev.ask_const (o : Option α) : (Ev.ask fun _ => o) = Ev.of o := by cases o <;> rfl
@[simp] theorem Ev.of_ite (o o' : Option α) : Ev.of (if p then o else o') = if p then Ev.of o else Ev.of o' := by split <;> rfl
@[simp] theorem Ev.of_map (o : Option α) (f : α → β) : Ev.of (o.map f) = (Ev.of o).bind fun a => Ev.pure (f a) := by cases o <;> rfl
end
@[simp] theorem dr_non (s : List Dt) : dr s .non = .non := rfl
@[simp] theorem dr_bl (s : List Dt) (b : Bool) : dr s (.bl b) = .bl b := rfl
@[simp] theorem dr_intI (s : List Dt) (i : Int) : dr s (.int i) = .int i := rfl
@[simp] theorem dr_str (s : List Dt) (z : Str) : dr s (.str z) = .str z := rfl
@[simp] theorem dr_lst (s ds : List Dt) : dr s (.lst ds) = .lst ds := rfl
@[simp] theorem dr_tup (s ds : List Dt) : dr s (.tup ds) = .tup ds := rfl
@[simp] theorem dr_dic (s : List Dt) (ks : List Key) (ds : List Dt) : dr s (.dic ks ds) = .dic ks ds := rfl
@[simp] theorem dr_obj (s : List Dt) (cn : Str) (ns : List Str) (ds : List Dt) : dr s (.obj cn ns ds) = .obj cn ns ds := rfl
@[simp] theorem dr_pen (s : List Dt) : dr s .pen = .pen := rfl
@[simp] theorem seqS_lst (s ds : List Dt) : seqS s (.lst ds) = some (ds, none) := rfl
@[simp] theorem seqS_tup (s ds : List Dt) : seqS s (.tup ds) = some (ds, none) := rfl
@[simp] theorem seqS_str (s : List Dt) (z : Str) : seqS s (.str z) = some (signs z, none) := rfl
@[simp] theorem chkE_none : chkE none = .pure () := rfl
@[simp] theorem drE_lst (ds : List Dt) : drE (.lst ds) = .pure (.lst ds) := rfl
@[simp] theorem drE_obj (cn : Str) (ns : List Str) (ds : List Dt) : drE (.obj cn ns ds) = .pure (.obj cn ns ds) := rfl
@[simp] theorem drE_str (z : Str) : drE (.str z) = .pure (.str z) := rfl
@[simp] theorem drE_int (i : Int) : drE (.int i) = .pure (.int i) := rfl
@[simp] theorem drE_bl (b : Bool) : drE (.bl b) = .pure (.bl b) := rfl
@[simp] theorem drE_non : drE .non = .pure .non := rfl
@[simp] theorem drE_tup (ds : List Dt) : drE (.tup ds) = .pure (.tup ds) := rfl
@[simp] theorem evLc_nil (src : Option (Nat × Dt)) (b : Dt → Ev (Option Dt)) (acc : List Dt) : evLc src b [] acc = (chkE src).bind fun _ => .pure acc := rfl
@[simp] theorem evFor_nil (src : Option (Nat × Dt)) (b : Dt → List Sl → Ev Fl) (Γ : List Sl) : evFor src b [] Γ = (chkE src).bind fun _ => .pure (.nx Γ) := rfl
/-! with draws and cells -/
theorem bind_at {α β : Type} {f : Ev α} {g : α → Ev β} {l l' : Sta} {a : α} (h : f l = some (.ok a, l')) : f.bind g l = g a l' := by
  unfold Ev.bind
  rw [h]
theorem bind_ex {α β : Type} {f : Ev α} {g : α → Ev β} {l l' : Sta} {cn : Str} {es : List (Str × Dt)} (h : f l = some (.ex cn es, l')) : f.bind g l = some (.ex cn es, l') := by
  unfold Ev.bind
  rw [h]
theorem calm_at {α : Type} {f : Ev α} {l l' : Sta} {a : α} (h : f l = some (.ok a, l')) : f.calm l = some (.ok a, l') := by unfold Ev.calm; rw [h]
theorem pure_at {α : Type} (a : α) (l : Sta) : Ev.pure a l = some (.ok a, l) := rfl
section
variable {a b : Ts} {q : Qc} {Γ Γ' : List Sl} {cn : Str} {es : List (Str × Dt)} {d : Dt}
theorem seq_rais (h : evS a q Γ = .rais cn es) : evS (.seq a b) q Γ = .rais cn es := by rw [evS_seq, h]; rfl
theorem seq_go (h : evS a q Γ = .pure (.nx Γ')) : evS (.seq a b) q Γ = evS b q Γ' := by rw [evS_seq, h]; rfl
theorem seq_ret (h : evS a q Γ = .pure (.rt d)) : evS (.seq a b) q Γ = .pure (.rt d) := by rw [evS_seq, h]; rfl
theorem run_rais {ar n : Nat} {f : Nat → List Dt → Ev Dt} {t : Tab} {ds : List Dt} (hl : ds.length = ar) (h : evS a (qOf f t false) (gamN n ds) = .rais cn es) : runF ar n false false a f t ds = .rais cn es := by
  rw [run_eq hl, h]; rfl
theorem run_ret {ar n : Nat} {nox : Bool} {f : Nat → List Dt → Ev Dt} {t : Tab} {ds : List Dt} (hl : ds.length = ar) (h : evS a (qOf f t false) (gamN n ds) = .pure (.rt d)) : runF ar n nox false a f t ds = .pure d := by
  rw [run_eq hl, h]; cases nox <;> rfl
theorem seq_at {l l' : Sta} (h : evS a q Γ l = some (.ok (.nx Γ'), l')) : evS (.seq a b) q Γ l = evS b q Γ' l' := by rw [evS_seq, bind_at h]
theorem seq_atR {l l' : Sta} (h : evS a q Γ l = some (.ok (.rt d), l')) : evS (.seq a b) q Γ l = some (.ok (.rt d), l') := by rw [evS_seq, bind_at h]; rfl
theorem seq_atX {l l' : Sta} (h : evS a q Γ l = some (.ex cn es, l')) : evS (.seq a b) q Γ l = some (.ex cn es, l') := by rw [evS_seq, bind_ex h]
theorem run_at {ar n : Nat} {nox lam : Bool} {f : Nat → List Dt → Ev Dt} {t : Tab} {ds : List Dt} {l l' : Sta} (hl : ds.length = ar) (h : evS a (qOf f t lam) (gamN n ds) l = some (.ok (.rt d), l')) : runF ar n nox lam a f t ds l = some (.ok d, l') := by
  rw [run_eq hl]
  cases nox
  · show Ev.bind _ _ l = _
    rw [bind_at h]
    rfl
  · show Ev.calm _ l = _
    unfold Ev.calm
    rw [bind_at h]
    rfl
theorem run_atN {ar n : Nat} {nox lam : Bool} {f : Nat → List Dt → Ev Dt} {t : Tab} {ds : List Dt} {l l' : Sta} (hl : ds.length = ar) (h : evS a (qOf f t lam) (gamN n ds) l = some (.ok (.nx Γ'), l')) : runF ar n nox lam a f t ds l = some (.ok .non, l') := by
  rw [run_eq hl]
  cases nox
  · show Ev.bind _ _ l = _
    rw [bind_at h]
    rfl
  · show Ev.calm _ l = _
    unfold Ev.calm
    rw [bind_at h]
    rfl
theorem run_atX {ar n : Nat} {f : Nat → List Dt → Ev Dt} {t : Tab} {ds : List Dt} {l l' : Sta} (hl : ds.length = ar) (h : evS a (qOf f t false) (gamN n ds) l = some (.ex cn es, l')) : runF ar n false false a f t ds l = some (.ex cn es, l') := by
  rw [run_eq hl]
  show Ev.bind _ _ l = _
  rw [bind_ex h]
end
/-! comprehensions and loops -/
theorem evLc_map {b : Dt → Ev (Option Dt)} {f : Dt → Dt} : ∀ {ds acc : List Dt}, (∀ d ∈ ds, b d = .pure (some (f d))) → evLc none b ds acc = .pure (acc ++ ds.map f)
  | [], acc, _ => by simp [evLc]
  | d :: ds, acc, h => by
    show (b d).bind _ = _
    rw [h d (by simp)]
    show evLc none b ds (acc ++ [f d]) = _
    rw [evLc_map fun e he => h e (by simp [he])]
    simp
/-- a loop: I between the turns, q draws a turn, no cell stays -/
theorem evFor_wp {b : Dt → List Sl → Ev Fl} {I : List Sl → Prop} (q : Nat) : ∀ (ds : List Dt) (Γ : List Sl) (l : List Nat), ds.length * q ≤ l.length → I Γ → (∀ d ∈ ds, ∀ Γ (l : List Nat), I Γ → q ≤ l.length → ∃ Γ' l', b d Γ (l, []) = some (.ok (.nx Γ'), (l', [])) ∧ I Γ' ∧ l.length ≤ l'.length + q) →
    ∃ Γ' l', evFor none b ds Γ (l, []) = some (.ok (.nx Γ'), (l', [])) ∧ I Γ' ∧ l.length ≤ l'.length + ds.length * q
  | [], Γ, l, _, h, _ => ⟨Γ, l, rfl, h, by simp⟩
  | d :: ds, Γ, l, hl, h, ht => by
    rw [List.length_cons, Nat.add_mul, Nat.one_mul] at hl
    obtain ⟨Γ1, l1, h1, h2, h3⟩ := ht d (by simp) Γ l h (by omega)
    obtain ⟨Γ2, l2, h4, h5, h6⟩ := evFor_wp q ds Γ1 l1 (by omega) h2 fun d' hd => ht d' (by simp [hd])
    refine ⟨Γ2, l2, ?_, h5, by rw [List.length_cons, Nat.add_mul, Nat.one_mul]; omega⟩
    show ((chkE none).bind fun _ => (b d Γ).bind _) (l, []) = _
    rw [chkE_none, Ev.pure_bind, bind_at h1]
    exact h4
theorem rng_ev {q : Qc} {Γ : List Sl} {as : Ta} {w : Nat} (h : evA as q Γ = .pure [.int w]) (h2 : w ≤ 16777216) : evI (.rng1 as) q Γ = .pure (upTo 0 w, none) := by
  rw [evI_rng1, h, Ev.pure_bind]
  exact if_pos (rOk_of (by omega) (by omega))
/-- a draw -/
theorem draw_wp {m : Int} {l : List Nat} {s : List Dt} (h1 : 0 < m) (h2 : m < 1073741824) (hl : 1 ≤ l.length) : ∃ i l', drawF [.pen, .int m] (l, s) = some (.ok (.int i), (l', s)) ∧ 0 ≤ i ∧ i < m ∧ l.length = l'.length + 1 := by
  cases l with
  | nil => simp at hl
  | cons x l =>
    refine ⟨(x : Int) % m, l, ?_, Int.emod_nonneg _ (by omega), Int.emod_lt_of_pos _ h1, rfl⟩
    show (if 0 < m ∧ m < 1073741824 then _ else none) = _
    rw [if_pos ⟨h1, h2⟩]
theorem eqE_self {d : Dt} (h : d.pl 20 = true) : eqE d d = some true := by
  unfold eqE
  split
  · rename_i hs
    cases d <;> first | rfl | (simp [sameD]; done) | (simp [scalD] at hs)
  · rw [if_pos (by rw [h]; rfl), eqv_self 20 d h]
/-! ### sealed -/
theorem nrf_frzA {look : Nat → Option Dt} : True := trivial
end Pb
namespace Pb
open PySem PySem.Spec PyProof.Rows L2
/-! ### made free -/
mutual
theorem frzA_nrf (look : Nat → Option Dt) : ∀ d : Dt, d.nrf = true → frzA look d = some d
  | .rf _, h => by cases h
  | .lst ds, h => by show (frzL look ds).map _ = _; rw [frzL_nrf look ds h]; rfl
  | .tup ds, h => by show (frzL look ds).map _ = _; rw [frzL_nrf look ds h]; rfl
  | .dic _ ds, h => by show (frzL look ds).map _ = _; rw [frzL_nrf look ds h]; rfl
  | .obj _ _ ds, h => by show (frzL look ds).map _ = _; rw [frzL_nrf look ds h]; rfl
  | .err _ _ ds, h => by show (frzL look ds).map _ = _; rw [frzL_nrf look ds h]; rfl
  | .non, _ => rfl
  | .bl _, _ => rfl
  | .int _, _ => rfl
  | .str _, _ => rfl
  | .pen, _ => rfl
  | .cls _, _ => rfl
theorem frzL_nrf (look : Nat → Option Dt) : ∀ ds : List Dt, Dt.nrfs ds = true → frzL look ds = some ds
  | [], _ => rfl
  | d :: ds, h => by
    have h : (d.nrf && Dt.nrfs ds) = true := h
    rw [Bool.and_eq_true] at h
    show (frzA look d).bind _ = _
    rw [frzA_nrf look d h.1, frzL_nrf look ds h.2]
    rfl
end
theorem frzs_nrf {N : Nat} {s : List Dt} : ∀ {es : List (Str × Dt)}, Dt.nrfs (es.map (·.2)) = true → frzs N s es = some es
  | [], _ => rfl
  | p :: ps, h => by
    have h : (p.2.nrf && Dt.nrfs (ps.map (·.2))) = true := h
    rw [Bool.and_eq_true] at h
    show (frz N s p.2).bind _ = _
    rw [show frz N s p.2 = some p.2 from frzA_nrf _ _ h.1, frzs_nrf h.2]
    rfl
theorem seal_at {f : Ev Dt} {l l' : List Nat} {s t : List Dt} {d d' : Dt} (h : f (l, s) = some (.ok d, (l', s ++ t))) (hf : frz s.length (s ++ t) d = some d') : sealE f (l, s) = some (.ok d', (l', s)) := by
  unfold sealE
  rw [h]
  dsimp only
  rw [if_pos (by rw [List.take_left]; exact Dt.sames_refl s), hf]
  rfl
theorem seal_atX {f : Ev Dt} {l l' : List Nat} {s t : List Dt} {cn : Str} {es : List (Str × Dt)} (h : f (l, s) = some (.ex cn es, (l', s ++ t))) (hf : Dt.nrfs (es.map (·.2)) = true) : sealE f (l, s) = some (.ex cn es, (l', s)) := by
  unfold sealE
  rw [h]
  dsimp only
  rw [if_pos (by rw [List.take_left]; exact Dt.sames_refl s), frzs_nrf hf]
  rfl
theorem frz_new {s : List Dt} {cn : Str} {ns : List Str} {ds : List Dt} (h : Dt.nrfs ds = true) : frz s.length (s ++ [.obj cn ns ds]) (.rf s.length) = some (.obj cn ns ds) := by
  show look s.length (s ++ [.obj cn ns ds]) 8 s.length = _
  show (if s.length < s.length then _ else _) = _
  rw [if_neg (Nat.lt_irrefl _), List.getElem?_append_right (Nat.le_refl _), Nat.sub_self]
  exact frzA_nrf _ (.obj cn ns ds) h
/-- C(..), made free at once -/
theorem mk_at {F : Nat → List Dt → Ev Dt} {e : Bool} {cn : Str} {id : Nat} {es : List Dt} {l l' : List Nat} {s : List Dt} {ns : List Str} {ds : List Dt} (h : F id (.rf s.length :: es) (l, s ++ [.obj cn [] []]) = some (.ok .non, (l', s ++ [.obj cn ns ds]))) (hn : Dt.nrfs ds = true) :
    sealE (mkE F e cn id es) (l, s) = some (.ok (.obj cn ns ds), (l', s)) := by
  refine seal_at (t := [.obj cn ns ds]) (d := .rf s.length) ?_ (frz_new hn)
  show ((selF e (F id (.rf s.length :: es))).bind _) (l, s ++ [.obj cn [] []]) = _
  have h2 : selF e (F id (.rf s.length :: es)) (l, s ++ [.obj cn [] []]) = some (.ok .non, (l', s ++ [.obj cn ns ds])) := by
    cases e
    · exact calm_at h
    · exact h
  rw [bind_at h2]
  rfl
theorem mk_atX {F : Nat → List Dt → Ev Dt} {cn cn' : Str} {id : Nat} {es : List Dt} {l l' : List Nat} {s : List Dt} {o : Dt} {fs : List (Str × Dt)} (h : F id (.rf s.length :: es) (l, s ++ [.obj cn [] []]) = some (.ex cn' fs, (l', s ++ [o]))) (hn : Dt.nrfs (fs.map (·.2)) = true) :
    sealE (mkE F true cn id es) (l, s) = some (.ex cn' fs, (l', s)) := by
  refine seal_atX (t := [o]) ?_ hn
  show ((selF true (F id (.rf s.length :: es))).bind _) (l, s ++ [.obj cn [] []]) = _
  exact bind_ex h
theorem get_new {s : List Dt} {o : Dt} : (s ++ [o])[s.length]? = some o := by simp
theorem set_new {s : List Dt} {o o' : Dt} : (s ++ [o]).set s.length o' = s ++ [o'] := by simp
theorem drE_rf {i : Nat} {l : List Nat} {s : List Dt} : drE (.rf i) (l, s) = some (.ok (dr s (.rf i)), (l, s)) := rfl
theorem dr_cell {i : Nat} {s : List Dt} {d : Dt} (h : s[i]? = some d) : dr s (.rf i) = d := by
  show (s[i]?).getD _ = d
  rw [h]
  rfl
/-- a field is stored -/
theorem setF_at {q : Qc} {Γ : List Sl} {f : Str} {a e : Te} {i : Nat} {l : List Nat} {s : List Dt} {cn : Str} {ns : List Str} {ds : List Dt} {d : Dt} (he : evE e q Γ = .pure d) (ha : evE a q Γ = .pure (.rf i)) (hi : s[i]? = some (.obj cn ns ds)) (hs : q.sf cn f = true) (hn : ns.length < 1000) :
    evS (.setF a f e) q Γ (l, s) = some (.ok (.nx Γ), (l, s.set i (.obj cn (putN f ns) (putD f d ns ds)))) := by
  rw [evS_setF, he, Ev.pure_bind, ha, Ev.pure_bind]
  refine bind_at (a := ()) ?_
  unfold Ev.upd setFE
  dsimp only
  rw [hi]
  dsimp only
  rw [if_pos ⟨hs, hn⟩]
/-- super().m(..) -/
theorem su_at {q : Qc} {Γ : List Sl} {e : Bool} {i : Nat} {cs : List (Str × Nat)} {as : Ta} {d : Dt} {cn : Str} {ns : List Str} {ds es : List Dt} {id : Nat} {l : List Nat} {s : List Dt} {r : Option (Re Dt × Sta)} (hv : varE Γ i = some d) (hd : dr s d = .obj cn ns ds) (hr : q.rai cn = true) (hc : cs.lookup cn = some id) (ha : evA as q Γ = .pure es) (h : selF e (q.f id (d :: es)) (l, s) = r) : evE (.su e i cs as) q Γ (l, s) = r := by
  rw [evE_su, hv, Ev.of_some, Ev.pure_bind, bind_at (f := drE d) (l' := (l, s)) (a := dr s d) rfl]
  unfold suE
  rw [hd]
  dsimp only
  rw [if_pos hr, hc]
  dsimp only
  rw [ha, Ev.pure_bind]
  exact h
/-- e.f -/
theorem at_int {q : Qc} {Γ : List Sl} {f : Str} {cs : List (Str × Atk)} {a : Te} {d : Dt} {cn : Str} {ns : List Str} {ds : List Dt} {j : Int} {l : List Nat} {s : List Dt} (ha : evE a q Γ = .pure d) (hd : dr s d = .obj cn ns ds) (hr : q.rai cn = true) (hc : cs.lookup cn = some (.int j)) (hn : ns.contains f = false) : evE (.at_ f cs a) q Γ (l, s) = some (.ok (.int j), (l, s)) := by
  rw [evE_at_, ha, Ev.pure_bind, bind_at (f := drE d) (l' := (l, s)) (a := dr s d) rfl]
  unfold atE
  rw [hd]
  dsimp only
  rw [if_pos hr, hc]
  dsimp only
  rw [if_pos hn]
  rfl
theorem drop_at {q : Qc} {Γ : List Sl} {a : Te} {d : Dt} {l l' : Sta} (h : evE a q Γ l = some (.ok d, l')) : evS (.drop a) q Γ l = some (.ok (.nx Γ), l') := by
  rw [evS_drop, bind_at h]
  rfl
theorem drop_atX {q : Qc} {Γ : List Sl} {a : Te} {cn : Str} {es : List (Str × Dt)} {l l' : Sta} (h : evE a q Γ l = some (.ex cn es, l')) : evS (.drop a) q Γ l = some (.ex cn es, l') := by
  rw [evS_drop, bind_ex h]
theorem consA_at {q : Qc} {Γ : List Sl} {a : Te} {as : Ta} {d : Dt} {ds : List Dt} {l l' l'' : Sta} (h : evE a q Γ l = some (.ok d, l')) (h2 : evA as q Γ l' = some (.ok ds, l'')) : evA (.cons a as) q Γ l = some (.ok (d :: ds), l'') := by
  rw [evA_cons, bind_at h, bind_at h2]
  rfl
theorem ifS_at {q : Qc} {Γ : List Sl} {t : Tt} {a b : Ts} {v : Bool} {l l' : Sta} (h : evT t q Γ l = some (.ok v, l')) : evS (.ifS t a b) q Γ l = (if v = true then evS a q Γ else evS b q Γ) l' := by
  rw [evS_ifS, bind_at h]
theorem not_atT {q : Qc} {Γ : List Sl} {t : Tt} {v : Bool} {l l' : Sta} (h : evT t q Γ l = some (.ok v, l')) : evT (.not_ t) q Γ l = some (.ok (!v), l') := by
  rw [evT_not_, bind_at h]
  rfl
theorem tr_bl {q : Qc} {Γ : List Sl} {a : Te} {v : Bool} {l l' : Sta} (h : evE a q Γ l = some (.ok (.bl v), l')) : evT (.tr a) q Γ l = some (.ok v, l') := by
  rw [evT_tr, bind_at h]
  rfl
theorem call_at {q : Qc} {Γ : List Sl} {f : Nat} {as : Ta} {ds : List Dt} {r : Dt} {e : Bool} {l l' l'' : Sta} (h : evA as q Γ l = some (.ok ds, l')) (h2 : q.f f ds l' = some (.ok r, l'')) : evE (.call e f as) q Γ l = some (.ok r, l'') := by
  rw [evE_call, bind_at h]
  cases e
  · exact calm_at h2
  · exact h2
end Pb
namespace Pb
open PySem PySem.Spec PyProof.Rows L2
theorem mkq_at {q : Qc} {Γ : List Sl} {e : Bool} {cn : Str} {id na nk : Nat} {ix : List Nat} {as ks : Ta} {ds es xs : List Dt} {L : Sta} {r : Option (Re Dt × Sta)} (hr : q.rai cn = true) (ha : evA as q Γ = .pure ds) (hk : evA ks q Γ = .pure es) (hn : ds.length = na ∧ es.length = nk) (hx : gPm ix ds es = xs) (h : sealE (mkE q.f e cn id xs) L = r) : evE (.sld (.mk e cn id na nk ix as ks)) q Γ L = r := by
  have z : evE (.mk e cn id na nk ix as ks) q Γ = mkE q.f e cn id xs := by
    rw [evE_mk, if_pos hr, ha, Ev.pure_bind, hk, Ev.pure_bind, if_pos hn, hx]
  show sealE (evE (.mk e cn id na nk ix as ks) q Γ) L = r
  rw [z]
  exact h
theorem hear_atX {q : Qc} {Γ : List Sl} {ex : Str} {i j len : Nat} {rest : Ts} {body : Te} {cn : Str} {es : List (Str × Dt)} {d : Dt} {l l' : List Nat} {s : List Dt} (hq : q.lam = true ∧ i ≠ j ∧ j < len) (h : evE body q Γ (l, s) = some (.ex cn es, (l', s))) (hx : q.exm cn ex = true) (hn : Dt.nrfs (es.map (·.2)) = true)
    (hrest : evS rest { q with hd := true, lam := false, f := fun _ _ => .stuck } (gamE len j cn es) (l', []) = some (.ok (.rt d), (l', []))) (hd : d.ne = true) : evE (.hear ex i j len rest body) q Γ (l, s) = some (.ok d, (l', s)) := by
  rw [evE_hear, if_pos hq]
  unfold Ev.catch_
  rw [h]
  dsimp only
  rw [if_pos ⟨hx, hn⟩]
  unfold hideE
  dsimp only
  have z : ((evS rest { q with hd := true, lam := false, f := fun _ _ => .stuck } (gamE len j cn es)).bind retH).calm (l', []) = some (.ok d, (l', [])) := by
    refine calm_at ?_
    rw [bind_at hrest]
    show (if d.ne = true then Ev.pure d else Ev.stuck) _ = _
    rw [if_pos hd]
    rfl
  rw [z]
theorem nwl_at {q : Qc} {Γ : List Sl} {i : Nat} {e : Te} {d : Dt} {l l' : List Nat} {s : List Dt} (h : evE e q Γ (l, s) = some (.ok d, (l', s))) : evS (.asg i (.nw (.lst (.cons e .nil)))) q Γ (l, s) = some (.ok (.nx (Γ.set i (.da (.rf s.length)))), (l', s ++ [.lst [d]])) := by
  rw [evS_asg, evE_nw, evN_lst]
  have z : ((evA (.cons e .nil) q Γ).bind fun ds => if szOk ds.length = true then Ev.pure (Dt.lst ds) else .stuck) (l, s) = some (.ok (.lst [d]), (l', s)) := by
    rw [bind_at (consA_at h rfl)]
    rfl
  have z2 : (((evA (.cons e .nil) q Γ).bind fun ds => if szOk ds.length = true then Ev.pure (Dt.lst ds) else .stuck).bind Ev.new) (l, s) = some (.ok (.rf s.length), (l', s ++ [.lst [d]])) := by
    rw [bind_at z]
    rfl
  rw [bind_at z2]
  rfl
theorem app_at {q : Qc} {Γ : List Sl} {i j : Nat} {e : Te} {d : Dt} {ds : List Dt} {l l' : List Nat} {s : List Dt} (hv : varE Γ i = some (.rf j)) (hs : s[j]? = some (.lst ds)) (hl : ds.length < 16777216) (h : evE e q Γ (l, s) = some (.ok d, (l', s))) : evS (.drop (.bm .append (.var i) (.cons e .nil))) q Γ (l, s) = some (.ok (.nx Γ), (l', s.set j (.lst (ds ++ [d])))) := by
  refine drop_at (d := .non) ?_
  rw [evE_bm, evE_var, hv, Ev.of_some, Ev.pure_bind]
  have z1 : (Ev.ask fun s => isLst s (.rf j)) (l, s) = some (.ok j, (l, s)) := by
    unfold Ev.ask isLst
    dsimp only
    rw [hs]
  rw [bind_at z1, bind_at (consA_at h rfl)]
  unfold Ev.upd bmE
  dsimp only
  rw [hs]
  dsimp only
  unfold Lm.ev
  dsimp only
  rw [if_pos (by rw [szLt_iff]; exact hl)]
  rfl
end Pb
namespace Pb.K05
open PySem PySem.Spec PyProof.Rows L2
def tabL : Tab := ⟨[("InvalidName", "InvalidName", true), ("InvalidName", "InvalidPart", false), ("InvalidPart", "InvalidName", false), ("InvalidPart", "InvalidPart", true)], [("InvalidName", "value"), ("InvalidPart", "word")], [("InvalidName", "PathError"), ("InvalidPart", "PathError")], ["InvalidName", "InvalidPart", "Part", "Tool", "Fork"],
  [(.own "Part", .own "Part", true), (.own "Tool", .own "Part", true), (.own "Fork", .own "Part", true), (.ty .none, .own "Part", false), (.ty .bool, .own "Part", false), (.ty .int, .own "Part", false), (.ty .str, .own "Part", false), (.ty .list, .own "Part", false), (.ty .tuple, .own "Part", false), (.ty .dict, .own "Part", false), (.own "Part", .own "Tool", false), (.own "Tool", .own "Tool", true), (.own "Fork", .own "Tool", false), (.ty .none, .own "Tool", false), (.ty .bool, .own "Tool", false), (.ty .int, .own "Tool", false), (.ty .str, .own "Tool", false), (.ty .list, .own "Tool", false), (.ty .tuple, .own "Tool", false), (.ty .dict, .own "Tool", false), (.own "Part", .own "Fork", false), (.own "Tool", .own "Fork", false), (.own "Fork", .own "Fork", true), (.ty .none, .own "Fork", false), (.ty .bool, .own "Fork", false), (.ty .int, .own "Fork", false), (.ty .str, .own "Fork", false), (.ty .list, .own "Fork", false), (.ty .tuple, .own "Fork", false), (.ty .dict, .own "Fork", false)],
  [("Part", .own "Part", false), ("Part", .own "Tool", true), ("Part", .own "Fork", true), ("Part", .ty .none, false), ("Part", .ty .bool, false), ("Part", .ty .int, false), ("Part", .ty .str, false), ("Part", .ty .list, false), ("Part", .ty .tuple, false), ("Part", .ty .dict, false), ("Tool", .own "Part", false), ("Tool", .own "Tool", false), ("Tool", .own "Fork", false), ("Tool", .ty .none, false), ("Tool", .ty .bool, false), ("Tool", .ty .int, false), ("Tool", .ty .str, false), ("Tool", .ty .list, false), ("Tool", .ty .tuple, false), ("Tool", .ty .dict, false), ("Fork", .own "Part", false), ("Fork", .own "Tool", false), ("Fork", .own "Fork", false), ("Fork", .ty .none, false), ("Fork", .ty .bool, false), ("Fork", .ty .int, false), ("Fork", .ty .str, false), ("Fork", .ty .list, false), ("Fork", .ty .tuple, false), ("Fork", .ty .dict, false)],
  [("Part", "name"), ("Tool", "width"), ("Tool", "name"), ("Fork", "name"), ("Fork", "own_lines")]⟩
def tm__law_pick : Ts := (.ret (.op .ix (.var 1) (.call false 0 (.cons (.var 0) (.cons (.blt .len (.cons (.var 1) .nil)) .nil)))))
def F__law_pick : Nat → List Dt → Ev Dt := fun id => match id with | 0 => drawF | _ => fun _ => .stuck
def e__law_pick : List Dt → Ev Dt := runF 2 2 true false tm__law_pick F__law_pick tabL
def tm__law_label : Ts := (.ret (.call false 1024 (.cons (.var 0) (.cons (.lst (.cons (.str "a") (.cons (.str "b") (.cons (.str "zzzzzzzz") (.cons (.str "a.b") (.cons (.str "left.hot.trim.x") (.cons (.str "end") (.cons (.str "tool") (.cons (.str "a.a") .nil))))))))) .nil))))
def F__law_label : Nat → List Dt → Ev Dt := fun id => match id with | 1024 => e__law_pick | _ => fun _ => .stuck
def e__law_label : List Dt → Ev Dt := runF 1 1 true false tm__law_label F__law_label tabL
def tm_is_simple : Ts := (.seq (.ifS (.or_ (.not_ (.tr (.isi .str (.var 0)))) (.not_ (.test (.chain .le .le (.int 1) (.blt .len (.cons (.var 0) .nil)) (.int 8))))) (.ret (.bl false)) .next)
    (.ret (.blt .all (.cons (.lc (.sq (.var 0)) (.name 1) .yes (.op .in_ (.var 1) (.str "abcdefghijklmnopqrstuvwxyz"))) .nil))))
def F_is_simple : Nat → List Dt → Ev Dt := fun id => match id with  | _ => fun _ => .stuck
def e_is_simple : List Dt → Ev Dt := runF 1 2 true false tm_is_simple F_is_simple tabL
def tm_is_name : Ts := (.seq (.ifS (.not_ (.tr (.isi .str (.var 0)))) (.ret (.bl false)) .next)
    (.seq (.asg 1 (.split (.var 0) (.str ".")))
    (.ret (.and_ (.op .le (.blt .len (.cons (.var 1) .nil)) (.int 4)) (.blt .all (.cons (.lc (.sq (.var 1)) (.name 2) .yes (.call false 130 (.cons (.var 2) .nil))) .nil))))))
def F_is_name : Nat → List Dt → Ev Dt := fun id => match id with | 130 => e_is_simple | _ => fun _ => .stuck
def e_is_name : List Dt → Ev Dt := runF 1 3 true false tm_is_name F_is_name tabL
def tm_Partu_initu : Ts := (.seq (.ifS (.not_ (.tr (.call false 131 (.cons (.var 1) .nil)))) (.rais "InvalidName" "value" (.var 1)) .next)
    (.setF (.var 0) "name" (.var 1)))
def F_Partu_initu : Nat → List Dt → Ev Dt := fun id => match id with | 131 => e_is_name | _ => fun _ => .stuck
def e_Partu_initu : List Dt → Ev Dt := runF 2 2 false false tm_Partu_initu F_Partu_initu tabL
def tm_is_integer : Ts := (.ret (.and_ (.isi .int (.var 0)) (.not_ (.isi .bool (.var 0)))))
def F_is_integer : Nat → List Dt → Ev Dt := fun id => match id with  | _ => fun _ => .stuck
def e_is_integer : List Dt → Ev Dt := runF 1 1 true false tm_is_integer F_is_integer tabL
def tm_is_between : Ts := (.ret (.and_ (.call false 14 (.cons (.var 0) .nil)) (.chain .le .le (.var 1) (.var 0) (.var 2))))
def F_is_between : Nat → List Dt → Ev Dt := fun id => match id with | 14 => e_is_integer | _ => fun _ => .stuck
def e_is_between : List Dt → Ev Dt := runF 3 3 true false tm_is_between F_is_between tabL
def tm_Toolu_initu : Ts := (.seq (.drop (.su true 0 [("Tool", 167)] (.cons (.var 1) .nil)))
    (.seq (.ifS (.not_ (.tr (.call false 15 (.cons (.var 2) (.cons (.int 1) (.cons (.at_ "MOST" [("Tool", .int 64), ("Fork", .int 7)] (.var 0)) .nil)))))) (.rais "InvalidPart" "word" (.str "width")) .next)
    (.setF (.var 0) "width" (.var 2))))
def F_Toolu_initu : Nat → List Dt → Ev Dt := fun id => match id with | 167 => e_Partu_initu | 15 => e_is_between | _ => fun _ => .stuck
def e_Toolu_initu : List Dt → Ev Dt := runF 3 3 false false tm_Toolu_initu F_Toolu_initu tabL
def tm_Part_cells : Ts := (.ret (.int 0))
def F_Part_cells : Nat → List Dt → Ev Dt := fun id => match id with  | _ => fun _ => .stuck
def e_Part_cells : List Dt → Ev Dt := runF 1 1 true false tm_Part_cells F_Part_cells tabL
def tm_Tool_cells : Ts := (.ret (.op .add (.su false 0 [("Tool", 168)] .nil) (.at_ "width" [("Tool", .fld)] (.var 0))))
def F_Tool_cells : Nat → List Dt → Ev Dt := fun id => match id with | 168 => e_Part_cells | _ => fun _ => .stuck
def e_Tool_cells : List Dt → Ev Dt := runF 1 1 true false tm_Tool_cells F_Tool_cells tabL
def tm_number_width : Ts := (.ret (.ifx (.test (.op .eq (.var 0) (.int 1))) (.int 1) (.ifx (.test (.op .lt (.var 0) (.int 4))) (.int 2) (.int 3))))
def F_number_width : Nat → List Dt → Ev Dt := fun id => match id with  | _ => fun _ => .stuck
def e_number_width : List Dt → Ev Dt := runF 1 1 true false tm_number_width F_number_width tabL
def tm_Fork_lines : Ts := (.ret (.at_ "own_lines" [("Fork", .fld)] (.var 0)))
def F_Fork_lines : Nat → List Dt → Ev Dt := fun id => match id with  | _ => fun _ => .stuck
def e_Fork_lines : List Dt → Ev Dt := runF 1 1 true false tm_Fork_lines F_Fork_lines tabL
def tm_Fork_cells : Ts := (.ret (.op .add (.su false 0 [("Fork", 168)] .nil) (.call false 174 (.cons (.blt .len (.cons (.at_ "lines" [("Fork", .prop 177)] (.var 0)) .nil)) .nil))))
def F_Fork_cells : Nat → List Dt → Ev Dt := fun id => match id with | 168 => e_Part_cells | 174 => e_number_width | 177 => e_Fork_lines | _ => fun _ => .stuck
def e_Fork_cells : List Dt → Ev Dt := runF 1 1 true false tm_Fork_cells F_Fork_cells tabL
def tm_Partu_equ : Ts := (.ret (.bl false))
def F_Partu_equ : Nat → List Dt → Ev Dt := fun id => match id with  | _ => fun _ => .stuck
def e_Partu_equ : List Dt → Ev Dt := runF 2 2 true false tm_Partu_equ F_Partu_equ tabL
def tm_Toolu_equ : Ts := (.ret (.and_ (.isq (.own "Tool") (.var 1)) (.and_ (.op .eq (.at_ "name" [("Part", .fld), ("Tool", .fld), ("Fork", .fld)] (.var 0)) (.at_ "name" [("Part", .fld), ("Tool", .fld), ("Fork", .fld)] (.var 1))) (.op .eq (.at_ "width" [("Tool", .fld)] (.var 0)) (.at_ "width" [("Tool", .fld)] (.var 1))))))
def F_Toolu_equ : Nat → List Dt → Ev Dt := fun id => match id with  | _ => fun _ => .stuck
def e_Toolu_equ : List Dt → Ev Dt := runF 2 2 true false tm_Toolu_equ F_Toolu_equ tabL
def tm_Forku_equ : Ts := (.ret (.and_ (.isq (.own "Fork") (.var 1)) (.and_ (.op .eq (.at_ "name" [("Part", .fld), ("Tool", .fld), ("Fork", .fld)] (.var 0)) (.at_ "name" [("Part", .fld), ("Tool", .fld), ("Fork", .fld)] (.var 1))) (.op .eq (.at_ "lines" [("Fork", .prop 177)] (.var 0)) (.at_ "lines" [("Fork", .prop 177)] (.var 1))))))
def F_Forku_equ : Nat → List Dt → Ev Dt := fun id => match id with | 177 => e_Fork_lines | _ => fun _ => .stuck
def e_Forku_equ : List Dt → Ev Dt := runF 2 2 true false tm_Forku_equ F_Forku_equ tabL
def tm_is_line : Ts := (.seq (.ifS (.or_ (.not_ (.tr (.isiTL (.var 0)))) (.test (.op .eq (.blt .len (.cons (.var 0) .nil)) (.int 0)))) (.ret (.bl false)) .next)
    (.ret (.blt .all (.cons (.lc (.sq (.var 0)) (.name 1) .yes (.isqT (.own "Tool") [(.own "Fork")] (.var 1))) .nil))))
def F_is_line : Nat → List Dt → Ev Dt := fun id => match id with  | _ => fun _ => .stuck
def e_is_line : List Dt → Ev Dt := runF 1 2 true false tm_is_line F_is_line tabL
def tm_Forku_initu : Ts := (.seq (.drop (.su true 0 [("Fork", 167)] (.cons (.var 1) .nil)))
    (.seq (.ifS (.not_ (.test (.chain .le .le (.int 1) (.blt .len (.cons (.var 2) .nil)) (.at_ "MOST" [("Tool", .int 64), ("Fork", .int 7)] (.var 0))))) (.rais "InvalidPart" "word" (.str "many")) .next)
    (.seq (.ifS (.not_ (.tr (.blt .all (.cons (.lc (.sq (.var 2)) (.name 3) .yes (.call false 173 (.cons (.var 3) .nil))) .nil)))) (.rais "InvalidPart" "word" (.str "line")) .next)
    (.setF (.var 0) "own_lines" (.blt .tuple (.cons (.lc (.sq (.var 2)) (.name 3) .yes (.blt .tuple (.cons (.var 3) .nil))) .nil))))))
def F_Forku_initu : Nat → List Dt → Ev Dt := fun id => match id with | 167 => e_Partu_initu | 173 => e_is_line | _ => fun _ => .stuck
def e_Forku_initu : List Dt → Ev Dt := pkE 2 (runF 3 4 false false tm_Forku_initu F_Forku_initu tabL)
def tm__law_odd_label : Ts := (.seq (.asg 1 (.lst (.cons (.str "") (.cons (.str ".") (.cons (.str "a.") (.cons (.str "A") (.cons (.str "a b") (.cons (.str "zzzzzzzzz") (.cons (.str "a.b.c.d.e") (.cons (.str "/") (.cons .non (.cons (.bl true) (.cons (.int 0) (.cons (.tup (.cons (.str "a") .nil)) (.cons (.lst (.cons (.str "a") .nil)) (.cons .dnew (.cons (.str "a1") (.cons (.str "a\n") .nil))))))))))))))))))
    (.ret (.call false 1024 (.cons (.var 0) (.cons (.var 1) .nil)))))
def F__law_odd_label : Nat → List Dt → Ev Dt := fun id => match id with | 1024 => e__law_pick | _ => fun _ => .stuck
def e__law_odd_label : List Dt → Ev Dt := runF 1 2 true false tm__law_odd_label F__law_odd_label tabL
def tm__law_heard : Ts := (.seq (.ifS (.tr (.isH "InvalidName" (.var 1))) (.ret (.tup (.cons (.str "name") (.cons (.blt .repr (.cons (.hvf "value" (.var 1)) .nil)) .nil)))) .next)
    (.ret (.ifx (.tr (.isH "InvalidPart" (.var 1))) (.tup (.cons (.str "part") (.cons (.hvf "word" (.var 1)) .nil))) (.str "odd"))))
def tm__law_refused_right : Ts := (.seq (.asgG [1, 2] (.tup (.cons (.call false 1026 (.cons (.var 0) .nil)) (.cons (.call false 1027 (.cons (.var 0) .nil)) .nil))))
    (.seq (.asg 3 (.call false 1024 (.cons (.var 0) (.cons (.lst (.cons (.int 0) (.cons (.int 65) (.cons (.neg (.int 1)) (.cons (.bl true) (.cons .non (.cons (.str "4") (.cons (.tup (.cons (.int 4) .nil)) (.cons (.lst (.cons (.int 4) .nil)) (.cons .dnew (.cons (.op .pow (.int 10) (.int 59)) .nil))))))))))) .nil))))
    (.seq (.asg 4 (.nw (.lst (.cons (.hear "PathError" 2 1 3 tm__law_heard (.sld (.mk true "Part" 167 1 0 [] (.cons (.var 2) .nil) .nil))) .nil))))
    (.seq (.drop (.bm .append (.var 4) (.cons (.hear "PathError" 2 1 3 tm__law_heard (.sld (.mk true "Part" 167 0 1 [0] .nil (.cons (.var 2) .nil)))) .nil)))
    (.seq (.drop (.bm .append (.var 4) (.cons (.hear "PathError" 2 1 3 tm__law_heard (.sld (.mk true "Tool" 170 2 0 [] (.cons (.var 2) (.cons (.var 3) .nil)) .nil))) .nil)))
    (.seq (.drop (.bm .append (.var 4) (.cons (.hear "PathError" 2 1 3 tm__law_heard (.sld (.mk true "Tool" 170 0 2 [1, 0] .nil (.cons (.int 3) (.cons (.var 2) .nil))))) .nil)))
    (.seq (.ifS (.test (.op .ne (.var 4) (.op .mul (.lst (.cons (.tup (.cons (.str "name") (.cons (.blt .repr (.cons (.var 2) .nil)) .nil))) .nil)) (.int 4)))) (.ret (.bl false)) .next)
    (.seq (.asg 4 (.nw (.lst (.cons (.hear "PathError" 2 1 3 tm__law_heard (.sld (.mk true "Tool" 170 2 0 [] (.cons (.var 1) (.cons (.var 3) .nil)) .nil))) .nil))))
    (.seq (.drop (.bm .append (.var 4) (.cons (.hear "PathError" 2 1 3 tm__law_heard (.sld (.mk true "Tool" 170 0 2 [1, 0] .nil (.cons (.var 3) (.cons (.var 1) .nil))))) .nil)))
    (.ret (.op .eq (.var 4) (.op .mul (.lst (.cons (.tup (.cons (.str "part") (.cons (.str "width") .nil))) .nil)) (.int 2)))))))))))))
def F__law_refused_right : Nat → List Dt → Ev Dt := fun id => match id with | 1027 => e__law_odd_label | 1026 => e__law_label | 1024 => e__law_pick | 167 => e_Partu_initu | 170 => e_Toolu_initu | _ => fun _ => .stuck
def e__law_refused_right : List Dt → Ev Dt := fun ds => sealE (runF 1 5 true true tm__law_refused_right F__law_refused_right tabL ds)
def tm_law : Ts := (.seq (.for_ (.rng1 (.cons (.int 8) .nil)) (.name 2) (.seq (.par 3 4 (.call false 1026 (.cons (.var 1) .nil)) (.call false 1024 (.cons (.var 1) (.cons (.lst (.cons (.int 1) (.cons (.int 2) (.cons (.int 64) (.cons (.op .add (.int 1) (.call false 0 (.cons (.var 1) (.cons (.int 64) .nil)))) .nil))))) .nil))))
    (.seq (.asgG [5, 6] (.tup (.cons (.sld (.mk false "Tool" 170 2 0 [] (.cons (.var 3) (.cons (.var 4) .nil)) .nil)) (.cons (.sld (.mk false "Tool" 170 0 2 [1, 0] .nil (.cons (.var 4) (.cons (.var 3) .nil)))) .nil))))
    (.seq (.ifS (.test (.op .ne (.blt .repr (.cons (.lst (.cons (.at_ "name" [("Part", .fld), ("Tool", .fld), ("Fork", .fld)] (.var 5)) (.cons (.at_ "width" [("Tool", .fld)] (.var 5)) (.cons (.me false "cells" [("Part", 168), ("Tool", 171), ("Fork", 178)] (.var 5) .nil) (.cons (.at_ "KIND" [("Part", .str "part"), ("Tool", .str "tool"), ("Fork", .str "fork")] (.var 5)) .nil))))) .nil)) (.blt .repr (.cons (.lst (.cons (.var 3) (.cons (.var 4) (.cons (.var 4) (.cons (.str "tool") .nil))))) .nil)))) (.ret (.bl false)) .next)
    (.seq (.ifS (.or_ (.not_ (.test (.eqO false [("Part", 169), ("Tool", 172), ("Fork", 180)] (.var 5) (.var 6)))) (.or_ (.test (.eqO true [("Part", 169), ("Tool", 172), ("Fork", 180)] (.var 5) (.var 6))) (.not_ (.tr (.isq (.own "Part") (.var 5)))))) (.ret (.bl false)) .next)
    (.seq (.asg 7 (.lst (.cons (.sld (.mk false "Tool" 170 2 0 [] (.cons (.var 3) (.cons (.ifx (.test (.op .lt (.var 4) (.int 64))) (.op .add (.var 4) (.int 1)) (.int 1)) .nil)) .nil)) (.cons (.sld (.mk false "Tool" 170 2 0 [] (.cons (.op .add (.str "q") (.sl (.var 3) .none (.some (.int 1)))) (.cons (.var 4) .nil)) .nil)) (.cons (.sld (.mk false "Part" 167 1 0 [] (.cons (.var 3) .nil) .nil)) .nil)))))
    (.seq (.asg 7 (.op .add (.var 7) (.lst (.cons (.var 3) (.cons (.var 4) (.cons .non (.cons (.tup (.cons (.var 3) (.cons (.var 4) .nil))) (.cons (.sld (.mk false "Fork" 176 2 0 [] (.cons (.var 3) (.cons (.lst (.cons (.sld (.mk false "Tool" 170 2 0 [] (.cons (.str "x") (.cons (.var 4) .nil)) .nil)) .nil)) .nil)) .nil)) .nil))))))))
    (.seq (.ifS (.test (.op .ne (.lc (.sq (.var 7)) (.name 8) (.or_ (.test (.eqO false [("Part", 169), ("Tool", 172), ("Fork", 180)] (.var 5) (.var 8))) (.not_ (.test (.eqO true [("Part", 169), ("Tool", 172), ("Fork", 180)] (.var 5) (.var 8))))) (.var 8)) (.lst .nil))) (.ret (.bl false)) .next)
    (.seq (.asg 9 (.sld (.mk false "Part" 167 1 0 [] (.cons (.var 3) .nil) .nil)))
    (.seq (.ifS (.test (.op .ne (.blt .repr (.cons (.lst (.cons (.at_ "name" [("Part", .fld), ("Tool", .fld), ("Fork", .fld)] (.var 9)) (.cons (.me false "cells" [("Part", 168), ("Tool", 171), ("Fork", 178)] (.var 9) .nil) (.cons (.at_ "KIND" [("Part", .str "part"), ("Tool", .str "tool"), ("Fork", .str "fork")] (.var 9)) .nil)))) .nil)) (.blt .repr (.cons (.lst (.cons (.var 3) (.cons (.int 0) (.cons (.str "part") .nil)))) .nil)))) (.ret (.bl false)) .next)
    (.seq (.ifS (.test (.op .ne (.lc (.sq (.op .add (.var 7) (.lst (.cons (.var 5) (.cons (.var 9) (.cons (.sld (.mk false "Part" 167 1 0 [] (.cons (.var 3) .nil) .nil)) .nil)))))) (.name 8) (.or_ (.test (.eqO false [("Part", 169), ("Tool", 172), ("Fork", 180)] (.var 9) (.var 8))) (.not_ (.test (.eqO true [("Part", 169), ("Tool", 172), ("Fork", 180)] (.var 9) (.var 8))))) (.var 8)) (.lst .nil))) (.ret (.bl false)) .next)
    (.ifS (.not_ (.tr (.call false 1028 (.cons (.var 1) .nil)))) (.ret (.bl false)) .next))))))))))))
    (.seq (.asg 10 (.lst (.cons (.str "part") (.cons (.str "tool") (.cons (.str "fork") (.cons (.str "door") .nil))))))
    (.ret (.and_ (.op .eq (.var 10) (.lst (.cons (.str "part") (.cons (.str "tool") (.cons (.str "fork") (.cons (.str "door") .nil)))))) (.op .eq (.blt .repr (.cons (.lst (.cons (.int 64) (.cons (.int 7) .nil))) .nil)) (.str "[64, 7]"))))))
def F_law : Nat → List Dt → Ev Dt := fun id => match id with | 1024 => e__law_pick | 0 => drawF | 1026 => e__law_label | 170 => e_Toolu_initu | 168 => e_Part_cells | 171 => e_Tool_cells | 178 => e_Fork_cells | 169 => e_Partu_equ | 172 => e_Toolu_equ | 180 => e_Forku_equ | 167 => e_Partu_initu | 176 => e_Forku_initu | 1028 => e__law_refused_right | _ => fun _ => .stuck
abbrev mL : Nat := 9
def law_n : Nat := 3000
theorem most_ok : law_n ≤ penLine := by decide
section
variable {i : Nat} {l : List Nat} {s ds : List Dt} {cn : Str} {ns : List Str} {z w : Dt}
theorem part_at (hz : e_is_name [z] = .pure (.bl true)) (hi : s[i]? = some (.obj cn ns ds)) (hs : tabL.sfF cn "name" = true) (hn : ns.length < 1000) : e_Partu_initu [.rf i, z] (l, s) = some (.ok .non, (l, s.set i (.obj cn (putN "name" ns) (putD "name" z ns ds)))) := by
  refine run_atN (Γ' := gamN 2 [.rf i, z]) rfl ?_
  unfold tm_Partu_initu
  rw [seq_go (Γ' := gamN 2 [.rf i, z]) (by simp [gamN, varE, F_Partu_initu, hz])]
  exact setF_at (by simp [gamN, varE]) (by simp [gamN, varE]) hi hs hn
theorem part_bad (hz : e_is_name [z] = .pure (.bl false)) : e_Partu_initu [.rf i, z] (l, s) = some (.ex "InvalidName" [("value", z)], (l, s)) := by
  refine run_atX rfl ?_
  unfold tm_Partu_initu
  rw [seq_rais (cn := "InvalidName") (es := [("value", z)]) (by
    have hr : tabL.raiF (Str.ofString "InvalidName") = true := by decide +kernel
    simp [gamN, varE, F_Partu_initu, hz, hr])]
  rfl
theorem tool_name (hi : s[i]? = some (.obj "Tool" [] [])) {r : Option (Re Dt × Sta)} (h : e_Partu_initu [.rf i, z] (l, s) = r) : evE (.su true 0 [("Tool", 167)] (.cons (.var 1) .nil)) (qOf F_Toolu_initu tabL false) (gamN 3 [.rf i, z, w]) (l, s) = r :=
  su_at (d := .rf i) (es := [z]) (id := 167) (by simp [gamN, varE]) (dr_cell hi) (by decide +kernel) (by decide +kernel) (by simp [gamN, varE]) h
theorem tool_width {b : Bool} (hi : s[i]? = some (.obj "Tool" ["name"] [z])) (hw : e_is_between [w, .int 1, .int 64] = .pure (.bl b)) :
    evT (.not_ (.tr (.call false 15 (.cons (.var 2) (.cons (.int 1) (.cons (.at_ "MOST" [("Tool", .int 64), ("Fork", .int 7)] (.var 0)) .nil)))))) (qOf F_Toolu_initu tabL false) (gamN 3 [.rf i, z, w]) (l, s) = some (.ok (!b), (l, s)) := by
  refine not_atT (tr_bl (call_at (ds := [w, .int 1, .int 64]) (l' := (l, s)) ?_ ?_))
  · refine consA_at (l' := (l, s)) (by simp [gamN, varE]; rfl) (consA_at (l' := (l, s)) rfl (consA_at (l' := (l, s)) ?_ rfl))
    exact at_int (d := .rf i) (by simp [gamN, varE]) (dr_cell hi) (by decide +kernel) (by kernel_rfl) (by decide +kernel)
  · show e_is_between [w, .int 1, .int 64] (l, s) = _
    rw [hw]
    rfl
theorem tool_at (hz : e_is_name [z] = .pure (.bl true)) (hw : e_is_between [w, .int 1, .int 64] = .pure (.bl true)) (hi : s[i]? = some (.obj "Tool" [] [])) : e_Toolu_initu [.rf i, z, w] (l, s) = some (.ok .non, (l, s.set i (.obj "Tool" ["name", "width"] [z, w]))) := by
  have hlt : i < s.length := (List.getElem?_eq_some_iff.mp hi).1
  have hi2 : (s.set i (.obj "Tool" ["name"] [z]))[i]? = some (.obj "Tool" ["name"] [z]) := by simp [hlt]
  refine run_atN (Γ' := gamN 3 [.rf i, z, w]) rfl ?_
  unfold tm_Toolu_initu
  rw [seq_at (drop_at (tool_name hi (part_at hz hi (by decide +kernel) (by decide))))]
  show evS _ _ _ (l, s.set i (.obj "Tool" ["name"] [z])) = _
  rw [seq_at (show evS (.ifS _ _ .next) _ _ _ = some (.ok (.nx (gamN 3 [.rf i, z, w])), (l, s.set i (.obj "Tool" ["name"] [z]))) by rw [ifS_at (tool_width hi2 hw)]; rfl)]
  rw [setF_at (i := i) (d := w) (by simp [gamN, varE]) (by simp [gamN, varE]) hi2 (by decide +kernel) (by decide)]
  rw [List.set_set]
  rfl
theorem tool_badN (hz : e_is_name [z] = .pure (.bl false)) (hi : s[i]? = some (.obj "Tool" [] [])) : e_Toolu_initu [.rf i, z, w] (l, s) = some (.ex "InvalidName" [("value", z)], (l, s)) := by
  refine run_atX rfl ?_
  unfold tm_Toolu_initu
  exact seq_atX (drop_atX (tool_name hi (part_bad hz)))
theorem tool_badW (hz : e_is_name [z] = .pure (.bl true)) (hw : e_is_between [w, .int 1, .int 64] = .pure (.bl false)) (hi : s[i]? = some (.obj "Tool" [] [])) : e_Toolu_initu [.rf i, z, w] (l, s) = some (.ex "InvalidPart" [("word", .str "width")], (l, s.set i (.obj "Tool" ["name"] [z]))) := by
  have hlt : i < s.length := (List.getElem?_eq_some_iff.mp hi).1
  have hi2 : (s.set i (.obj "Tool" ["name"] [z]))[i]? = some (.obj "Tool" ["name"] [z]) := by simp [hlt]
  refine run_atX rfl ?_
  unfold tm_Toolu_initu
  rw [seq_at (drop_at (tool_name hi (part_at hz hi (by decide +kernel) (by decide))))]
  show evS _ _ _ (l, s.set i (.obj "Tool" ["name"] [z])) = _
  refine seq_atX ?_
  rw [ifS_at (tool_width hi2 hw)]
  have hr : tabL.raiF (Str.ofString "InvalidPart") = true := by decide +kernel
  simp [hr]
  rfl
end

def cut : Nat → Ts → Ts
  | 0, _ => .next
  | k + 1, .seq a b => .seq a (cut k b)
  | _ + 1, t => t
def bodyL : Ts := match tm_law with
  | .seq (.for_ _ _ b) _ => b
  | _ => .next
def bodyA : Ts := match bodyL with
  | .seq _ b => cut 9 b
  | _ => .next
/-- names seen -/
def nmT : List (Dt × Bool) := [(.str "a", true), (.str "b", true), (.str "zzzzzzzz", true), (.str "a.b", true), (.str "left.hot.trim.x", true), (.str "end", true), (.str "tool", true), (.str "a.a", true), (.str "qa", true), (.str "qb", true), (.str "qz", true), (.str "ql", true), (.str "qe", true), (.str "qt", true), (.str "x", true)]
def look2 (d : Dt) : List (Dt × Bool) → Option Bool
  | [] => none
  | (e, b) :: r => if e.same d = true then some b else look2 d r
theorem look2_ok {P : Dt → Bool → Prop} {d : Dt} {b : Bool} : ∀ {t : List (Dt × Bool)}, (∀ x ∈ t, P x.1 x.2) → look2 d t = some b → P d b
  | [], _, h => by cases h
  | (e, b') :: r, hp, h => by
    unfold look2 at h
    split at h
    · rename_i hs
      cases h
      have := Dt.same_eq _ _ hs
      subst this
      exact hp (e, b) (by simp)
    · exact look2_ok (fun x hx => hp x (by simp [hx])) h
def nameF (ds : List Dt) : Ev Dt := match ds with
  | [d] => (match look2 d nmT with
    | some b => .pure (.bl b)
    | none => e_is_name [d])
  | ds => e_is_name ds
theorem nm_all : ∀ x ∈ nmT, e_is_name [x.1] = .pure (.bl x.2) := by
  have h : nmT.map (fun x => fun (l : List Nat) (s : List Dt) => e_is_name [x.1] (l, s)) = nmT.map (fun x => fun (l : List Nat) (s : List Dt) => some (.ok (.bl x.2), (l, s))) := by kernel_rfl
  intro x hx
  obtain ⟨i, hi, rfl⟩ := List.mem_iff_getElem.mp hx
  have h2 := congrArg (fun t => t[i]?) h
  simp only [List.getElem?_map, List.getElem?_eq_getElem hi, Option.map_some, Option.some.injEq] at h2
  funext ⟨l, s⟩
  exact congrFun (congrFun h2 l) s
theorem name_eq : e_is_name = nameF := by
  funext ds
  unfold nameF
  split
  · rename_i d
    split
    · rename_i b hb
      exact look2_ok (P := fun d b => e_is_name [d] = .pure (.bl b)) nm_all hb
    · rfl
  · rfl
def fPart : Nat → List Dt → Ev Dt := fun id => match id with | 131 => nameF | _ => fun _ => .stuck
def gPart : List Dt → Ev Dt := runF 2 2 false false tm_Partu_initu fPart tabL
theorem part_eq : e_Partu_initu = gPart := by
  unfold e_Partu_initu gPart F_Partu_initu fPart
  first | (rw [name_eq]; done) | (rw [name_eq]; rfl)
def fTool : Nat → List Dt → Ev Dt := fun id => match id with | 167 => gPart | 15 => e_is_between | _ => fun _ => .stuck
def gTool : List Dt → Ev Dt := runF 3 3 false false tm_Toolu_initu fTool tabL
theorem tool_eq : e_Toolu_initu = gTool := by
  unfold e_Toolu_initu gTool F_Toolu_initu fTool
  first | (rw [part_eq]; done) | (rw [part_eq]; rfl)
def fFork : Nat → List Dt → Ev Dt := fun id => match id with | 167 => gPart | 173 => e_is_line | _ => fun _ => .stuck
def gFork : List Dt → Ev Dt := pkE 2 (runF 3 4 false false tm_Forku_initu fFork tabL)
theorem fork_eq : e_Forku_initu = gFork := by
  unfold e_Forku_initu gFork F_Forku_initu fFork
  first | (rw [part_eq]; done) | (rw [part_eq]; rfl)
def fLaw : Nat → List Dt → Ev Dt := fun id => match id with | 1024 => e__law_pick | 0 => drawF | 1026 => e__law_label | 170 => gTool | 168 => e_Part_cells | 171 => e_Tool_cells | 178 => e_Fork_cells | 169 => e_Partu_equ | 172 => e_Toolu_equ | 180 => e_Forku_equ | 167 => gPart | 176 => gFork | 1028 => e__law_refused_right | _ => fun _ => .stuck
theorem law_eq : F_law = fLaw := by
  unfold F_law fLaw
  first | (rw [part_eq, tool_eq, fork_eq]; done) | (rw [part_eq, tool_eq, fork_eq]; rfl)
/-- the list of draws behind, where the slots are fit -/
def outA (x : Option (Re Fl × Sta)) : Option (List Nat) := match x with
  | some (.ok (.nx [.un, .da .pen, _, _, _, _, _, _, _, _, _]), (l, [])) => some l
  | _ => none

def oddT : List Dt := [.str "", .str ".", .str "a.", .str "A", .str "a b", .str "zzzzzzzzz", .str "a.b.c.d.e", .str "/", .non, .bl true, .int 0, .tup [.str "a"], .lst [.str "a"], .dic [] [], .str "a1", .str "a\n"]
def wideT : List Dt := [.int 0, .int 65, .int (-1), .bl true, .non, .str "4", .tup [.int 4], .lst [.int 4], .dic [] [], .int (10 ^ 59)]
def labT : List Dt := [.str "a", .str "b", .str "zzzzzzzz", .str "a.b", .str "left.hot.trim.x", .str "end", .str "tool", .str "a.a"]
theorem tab_fun {α : Type} {t : List α} {f g : α → List Nat → List Dt → Option (Re Dt × Sta)} (h : t.map f = t.map g) : ∀ x ∈ t, f x = g x := by
  intro x hx
  obtain ⟨i, hi, rfl⟩ := List.mem_iff_getElem.mp hx
  have h2 := congrArg (fun t => t[i]?) h
  simpa only [List.getElem?_map, List.getElem?_eq_getElem hi, Option.map_some, Option.some.injEq] using h2
theorem odd_name : ∀ z ∈ oddT, e_is_name [z] = .pure (.bl false) := by
  intro z hz
  have h := tab_fun (t := oddT) (f := fun z l s => e_is_name [z] (l, s)) (g := fun _ l s => some (.ok (.bl false), (l, s))) (by kernel_rfl) z hz
  funext ⟨l, s⟩
  exact congrFun (congrFun h l) s
theorem lab_name : ∀ z ∈ labT, e_is_name [z] = .pure (.bl true) := by
  intro z hz
  have h := tab_fun (t := labT) (f := fun z l s => e_is_name [z] (l, s)) (g := fun _ l s => some (.ok (.bl true), (l, s))) (by kernel_rfl) z hz
  funext ⟨l, s⟩
  exact congrFun (congrFun h l) s
theorem wide_no : ∀ z ∈ wideT, e_is_between [z, .int 1, .int 64] = .pure (.bl false) := by
  intro z hz
  have h := tab_fun (t := wideT) (f := fun z l s => e_is_between [z, .int 1, .int 64] (l, s)) (g := fun _ l s => some (.ok (.bl false), (l, s))) (by kernel_rfl) z hz
  funext ⟨l, s⟩
  exact congrFun (congrFun h l) s
abbrev qR : Qc := qOf F__law_refused_right tabL true
abbrev qH : Qc := { qR with hd := true, lam := false, f := fun _ _ => .stuck }
/-- what is heard of a bad name -/
theorem heard_name (l : List Nat) : ∀ z ∈ oddT, evS tm__law_heard qH (gamE 3 1 "InvalidName" [("value", z)]) (l, []) = some (.ok (.rt (.tup [.str "name", .str z.sh])), (l, [])) := by
  intro z hz
  have h : oddT.map (fun z => fun (l : List Nat) (_ : List Dt) => (evS tm__law_heard qH (gamE 3 1 "InvalidName" [("value", z)]) (l, [])).bind fun x => match x with | (.ok (.rt d), L) => some (Re.ok d, L) | _ => none) = oddT.map (fun z => fun l _ => some (.ok (.tup [.str "name", .str z.sh]), (l, []))) := by kernel_rfl
  have h2 := congrFun (congrFun (tab_fun h z hz) l) []
  obtain ⟨x, e1, e2⟩ := Option.bind_eq_some_iff.mp h2
  rw [e1]
  split at e2
  · cases e2; rfl
  · cases e2
theorem heard_width (l : List Nat) : evS tm__law_heard qH (gamE 3 1 "InvalidPart" [("word", .str "width")]) (l, []) = some (.ok (.rt (.tup [.str "part", .str "width"])), (l, [])) := by kernel_rfl

theorem draw_x {m : Int} {x : Nat} {l : List Nat} {s : List Dt} (h1 : 0 < m) (h2 : m < 1073741824) : drawF [.pen, .int m] (x :: l, s) = some (.ok (.int ((x : Int) % m)), (l, s)) := by
  show (if 0 < m ∧ m < 1073741824 then _ else none) = _
  rw [if_pos ⟨h1, h2⟩]
theorem pick_at {ds : List Dt} {x : Nat} {l : List Nat} {s : List Dt} (h : 0 < ds.length) (h2 : ds.length < 1073741824) : ∃ d ∈ ds, e__law_pick [.pen, .lst ds] (x :: l, s) = some (.ok d, (l, s)) := by
  obtain ⟨d, e, hd⟩ := atI_nat (xs := ds) (i := (x : Int) % (ds.length : Int)) (Int.emod_nonneg _ (by omega)) (Int.emod_lt_of_pos _ (by omega))
  refine ⟨d, hd, run_at rfl ?_⟩
  unfold tm__law_pick
  rw [evS_ret]
  have hc : evE (.call false 0 (.cons (.var 0) (.cons (.blt .len (.cons (.var 1) .nil)) .nil))) (qOf F__law_pick tabL false) (gamN 2 [.pen, .lst ds]) (x :: l, s) = some (.ok (.int ((x : Int) % (ds.length : Int))), (l, s)) :=
    call_at (ds := [.pen, .int ds.length]) (l' := (x :: l, s)) rfl (draw_x (by omega) (by omega))
  refine bind_at (a := d) (l' := (l, s)) ?_
  rw [evE_op]
  rw [bind_at (f := evE (.var 1) (qOf F__law_pick tabL false) (gamN 2 [.pen, .lst ds])) (a := .lst ds) (l' := (x :: l, s)) rfl, bind_at hc]
  simp only [dr_lst, dr_intI, o_ixL, e, Ev.ask_some]
  rfl
/-- the def calls pick on a list written out -/
theorem pickC {q : Qc} {Γ : List Sl} {as : Ta} {ds : List Dt} {i x : Nat} {l : List Nat} {s : List Dt} (hq : q.f 1024 = e__law_pick) (hv : varE Γ i = some .pen) (ha : ∀ L, evA as q Γ L = some (.ok ds, L)) (h : 0 < ds.length) (h2 : ds.length < 1000) : ∃ d ∈ ds, evE (.call false 1024 (.cons (.var i) (.cons (.lst as) .nil))) q Γ (x :: l, s) = some (.ok d, (l, s)) := by
  obtain ⟨d, hd, e⟩ := pick_at (x := x) (l := l) (s := s) h (by omega)
  refine ⟨d, hd, call_at (ds := [.pen, .lst ds]) (l' := (x :: l, s)) ?_ (by rw [hq]; exact e)⟩
  refine consA_at (l' := (x :: l, s)) (by rw [evE_var, hv]; rfl) (consA_at (l' := (x :: l, s)) ?_ rfl)
  rw [evE_lst, bind_at (ha _), if_pos (by rw [szOk_iff]; omega)]
  rfl
theorem label_at {x : Nat} {l : List Nat} {s : List Dt} : ∃ d ∈ labT, e__law_label [.pen] (x :: l, s) = some (.ok d, (l, s)) := by
  obtain ⟨d, hd, e⟩ := pickC (q := qOf F__law_label tabL false) (Γ := gamN 1 [.pen]) (as := .cons (.str "a") (.cons (.str "b") (.cons (.str "zzzzzzzz") (.cons (.str "a.b") (.cons (.str "left.hot.trim.x") (.cons (.str "end") (.cons (.str "tool") (.cons (.str "a.a") .nil)))))))) (ds := labT) (i := 0) (x := x) (l := l) (s := s) rfl rfl (fun _ => rfl) (by decide) (by decide)
  refine ⟨d, hd, run_at rfl ?_⟩
  unfold tm__law_label
  rw [evS_ret, bind_at e]
  rfl
theorem odd_at {x : Nat} {l : List Nat} {s : List Dt} : ∃ d ∈ oddT, e__law_odd_label [.pen] (x :: l, s) = some (.ok d, (l, s)) := by
  have h1 : ∃ as, tm__law_odd_label = .seq (.asg 1 (.lst as)) (.ret (.call false 1024 (.cons (.var 0) (.cons (.var 1) .nil)))) ∧ ∀ L, evA as (qOf F__law_odd_label tabL false) (gamN 2 [.pen]) L = some (.ok oddT, L) := ⟨_, rfl, fun _ => rfl⟩
  obtain ⟨as, e1, e2⟩ := h1
  obtain ⟨d, hd, e⟩ := pick_at (ds := oddT) (x := x) (l := l) (s := s) (by decide) (by decide)
  refine ⟨d, hd, run_at rfl ?_⟩
  rw [e1]
  rw [seq_at (Γ' := (gamN 2 [.pen]).set 1 (.da (.lst oddT))) (l' := (x :: l, s)) (by
    rw [evS_asg]
    rw [bind_at (a := .lst oddT) (l' := (x :: l, s)) (by rw [evE_lst, bind_at (e2 _)]; rfl)]
    rfl)]
  rw [evS_ret, bind_at (call_at (ds := [.pen, .lst oddT]) (l' := (x :: l, s)) rfl e)]
  rfl

section
variable {z o w v : Dt} {l : List Nat} {s : List Dt}
abbrev tN (o : Dt) : Dt := .tup [.str "name", .str o.sh]
abbrev tW : Dt := .tup [.str "part", .str "width"]
theorem odd_nrf : ∀ o ∈ oddT, Dt.nrfs [o] = true := by decide +kernel
theorem hearN {as ks : Ta} {cn : Str} {id na nk : Nat} {ix : List Nat} {ds es xs : List Dt} {Γ : List Sl} {ob : Dt} (ho : o ∈ oddT) (hr : qR.rai cn = true) (ha : evA as qR Γ = .pure ds) (hk : evA ks qR Γ = .pure es) (hn : ds.length = na ∧ es.length = nk) (hx : gPm ix ds es = xs)
    (h : qR.f id (.rf s.length :: xs) (l, s ++ [.obj cn [] []]) = some (.ex "InvalidName" [("value", o)], (l, s ++ [ob]))) :
    evE (.hear "PathError" 2 1 3 tm__law_heard (.sld (.mk true cn id na nk ix as ks))) qR Γ (l, s) = some (.ok (tN o), (l, s)) :=
  hear_atX ⟨rfl, by decide, by decide⟩ (mkq_at hr ha hk hn hx (mk_atX h (odd_nrf o ho))) (by decide +kernel) (odd_nrf o ho) (heard_name l o ho) rfl
theorem hearW {as ks : Ta} {cn : Str} {id na nk : Nat} {ix : List Nat} {ds es xs : List Dt} {Γ : List Sl} {ob : Dt} (hr : qR.rai cn = true) (ha : evA as qR Γ = .pure ds) (hk : evA ks qR Γ = .pure es) (hn : ds.length = na ∧ es.length = nk) (hx : gPm ix ds es = xs)
    (h : qR.f id (.rf s.length :: xs) (l, s ++ [.obj cn [] []]) = some (.ex "InvalidPart" [("word", .str "width")], (l, s ++ [ob]))) :
    evE (.hear "PathError" 2 1 3 tm__law_heard (.sld (.mk true cn id na nk ix as ks))) qR Γ (l, s) = some (.ok tW, (l, s)) :=
  hear_atX ⟨rfl, by decide, by decide⟩ (mkq_at hr ha hk hn hx (mk_atX h rfl)) (by decide +kernel) rfl (heard_width l) rfl
abbrev gR (z o w r : Sl) : List Sl := [.da .pen, z, o, w, r]
abbrev tPart1 : Te := .hear "PathError" 2 1 3 tm__law_heard (.sld (.mk true "Part" 167 1 0 [] (.cons (.var 2) .nil) .nil))
abbrev tPart2 : Te := .hear "PathError" 2 1 3 tm__law_heard (.sld (.mk true "Part" 167 0 1 [0] .nil (.cons (.var 2) .nil)))
abbrev tTool1 : Te := .hear "PathError" 2 1 3 tm__law_heard (.sld (.mk true "Tool" 170 2 0 [] (.cons (.var 2) (.cons (.var 3) .nil)) .nil))
abbrev tTool2 : Te := .hear "PathError" 2 1 3 tm__law_heard (.sld (.mk true "Tool" 170 0 2 [1, 0] .nil (.cons (.int 3) (.cons (.var 2) .nil))))
abbrev tTool3 : Te := .hear "PathError" 2 1 3 tm__law_heard (.sld (.mk true "Tool" 170 2 0 [] (.cons (.var 1) (.cons (.var 3) .nil)) .nil))
abbrev tTool4 : Te := .hear "PathError" 2 1 3 tm__law_heard (.sld (.mk true "Tool" 170 0 2 [1, 0] .nil (.cons (.var 3) (.cons (.var 1) .nil))))
theorem p1 {r : Sl} (ho : o ∈ oddT) : evE tPart1 qR (gR (.da z) (.da o) (.da w) r) (l, s) = some (.ok (tN o), (l, s)) :=
  hearN (ob := .obj "Part" [] []) (xs := [o]) ho (by decide +kernel) rfl rfl ⟨rfl, rfl⟩ rfl (part_bad (odd_name o ho))
theorem p2 {r : Sl} (ho : o ∈ oddT) : evE tPart2 qR (gR (.da z) (.da o) (.da w) r) (l, s) = some (.ok (tN o), (l, s)) :=
  hearN (ob := .obj "Part" [] []) (xs := [o]) ho (by decide +kernel) rfl rfl ⟨rfl, rfl⟩ rfl (part_bad (odd_name o ho))
theorem p3 {r : Sl} (ho : o ∈ oddT) : evE tTool1 qR (gR (.da z) (.da o) (.da w) r) (l, s) = some (.ok (tN o), (l, s)) :=
  hearN (ob := .obj "Tool" [] []) (xs := [o, w]) ho (by decide +kernel) rfl rfl ⟨rfl, rfl⟩ rfl (tool_badN (odd_name o ho) get_new)
theorem p4 {r : Sl} (ho : o ∈ oddT) : evE tTool2 qR (gR (.da z) (.da o) (.da w) r) (l, s) = some (.ok (tN o), (l, s)) :=
  hearN (ob := .obj "Tool" [] []) (xs := [o, .int 3]) ho (by decide +kernel) rfl rfl ⟨rfl, rfl⟩ rfl (tool_badN (odd_name o ho) get_new)
theorem p5 {r : Sl} (hz : z ∈ labT) (hw : w ∈ wideT) : evE tTool3 qR (gR (.da z) (.da o) (.da w) r) (l, s) = some (.ok tW, (l, s)) :=
  hearW (ob := .obj "Tool" ["name"] [z]) (xs := [z, w]) (by decide +kernel) rfl rfl ⟨rfl, rfl⟩ rfl ((tool_badW (lab_name z hz) (wide_no w hw) get_new).trans (by rw [set_new]))
theorem p6 {r : Sl} (hz : z ∈ labT) (hw : w ∈ wideT) : evE tTool4 qR (gR (.da z) (.da o) (.da w) r) (l, s) = some (.ok tW, (l, s)) :=
  hearW (ob := .obj "Tool" ["name"] [z]) (xs := [z, w]) (by decide +kernel) rfl rfl ⟨rfl, rfl⟩ rfl ((tool_badW (lab_name z hz) (wide_no w hw) get_new).trans (by rw [set_new]))
abbrev tCmp : Ts := .ifS (.test (.op .ne (.var 4) (.op .mul (.lst (.cons (.tup (.cons (.str "name") (.cons (.blt .repr (.cons (.var 2) .nil)) .nil))) .nil)) (.int 4)))) (.ret (.bl false)) .next
theorem cmp_ok (ho : o ∈ oddT) : evS tCmp qR (gR (.da z) (.da o) (.da w) (.da (.rf 0))) (l, [.lst [tN o, tN o, tN o, tN o]]) = some (.ok (.nx (gR (.da z) (.da o) (.da w) (.da (.rf 0)))), (l, [.lst [tN o, tN o, tN o, tN o]])) := by
  have h : oddT.map (fun o => fun (l : List Nat) (s : List Dt) (z w : Dt) => evS tCmp qR (gR (.da z) (.da o) (.da w) (.da (.rf 0))) (l, [.lst [tN o, tN o, tN o, tN o]])) = oddT.map (fun o => fun l s z w => some (.ok (.nx (gR (.da z) (.da o) (.da w) (.da (.rf 0)))), (l, [.lst [tN o, tN o, tN o, tN o]]))) := by kernel_rfl
  obtain ⟨i, hi, rfl⟩ := List.mem_iff_getElem.mp ho
  have h2 := congrArg (fun t => t[i]?) h
  simp only [List.getElem?_map, List.getElem?_eq_getElem hi, Option.map_some, Option.some.injEq] at h2
  exact congrFun (congrFun (congrFun (congrFun h2 l) []) z) w
abbrev tEnd : Ts := .ret (.op .eq (.var 4) (.op .mul (.lst (.cons (.tup (.cons (.str "part") (.cons (.str "width") .nil))) .nil)) (.int 2)))
theorem end_ok {d : Dt} : evS tEnd qR (gR (.da z) (.da o) (.da w) (.da (.rf 1))) (l, [d, .lst [tW, tW]]) = some (.ok (.rt (.bl true)), (l, [d, .lst [tW, tW]])) := by kernel_rfl
theorem refused_at {x y u : Nat} : e__law_refused_right [.pen] (x :: y :: u :: l, []) = some (.ok (.bl true), (l, [])) := by
  obtain ⟨z, hz, e1⟩ := label_at (x := x) (l := y :: u :: l) (s := [])
  obtain ⟨o, ho, e2⟩ := odd_at (x := y) (l := u :: l) (s := [])
  have hw : ∃ as, (∀ L, evA as qR (gR (.da z) (.da o) .un .un) L = some (.ok wideT, L)) ∧ tm__law_refused_right = .seq (.asgG [1, 2] (.tup (.cons (.call false 1026 (.cons (.var 0) .nil)) (.cons (.call false 1027 (.cons (.var 0) .nil)) .nil)))) (.seq (.asg 3 (.call false 1024 (.cons (.var 0) (.cons (.lst as) .nil))))
      (.seq (.asg 4 (.nw (.lst (.cons tPart1 .nil)))) (.seq (.drop (.bm .append (.var 4) (.cons tPart2 .nil))) (.seq (.drop (.bm .append (.var 4) (.cons tTool1 .nil))) (.seq (.drop (.bm .append (.var 4) (.cons tTool2 .nil))) (.seq tCmp (.seq (.asg 4 (.nw (.lst (.cons tTool3 .nil)))) (.seq (.drop (.bm .append (.var 4) (.cons tTool4 .nil))) tEnd)))))))) := ⟨_, fun _ => by kernel_rfl, rfl⟩
  obtain ⟨as, h1, h2⟩ := hw
  obtain ⟨w, hw, e3⟩ := pickC (q := qR) (Γ := gR (.da z) (.da o) .un .un) (as := as) (ds := wideT) (i := 0) (x := u) (l := l) (s := []) rfl rfl h1 (by decide) (by decide)
  refine seal_at (s := []) (t := [.lst [tN o, tN o, tN o, tN o], .lst [tW, tW]]) (d := .bl true) (run_at rfl ?_) rfl
  rw [h2]
  rw [seq_at (Γ' := gR (.da z) (.da o) .un .un) (l' := (u :: l, [])) (by
    rw [evS_asgG, bind_at (a := .tup [z, o]) (l' := (u :: l, [])) (by
      rw [evE_tup, bind_at (consA_at (call_at (ds := [.pen]) (l' := (x :: y :: u :: l, [])) rfl e1) (consA_at (call_at (ds := [.pen]) (l' := (y :: u :: l, [])) rfl e2) rfl))]
      rfl)]
    rfl)]
  rw [seq_at (Γ' := gR (.da z) (.da o) (.da w) .un) (l' := (l, [])) (by
    rw [evS_asg, bind_at e3]
    rfl)]
  refine (seq_at (nwl_at (p1 ho))).trans ?_
  refine (seq_at (Γ' := gR (.da z) (.da o) (.da w) (.da (.rf 0))) (app_at (j := 0) (ds := [tN o]) rfl rfl (by simp) (p2 ho))).trans ?_
  refine (seq_at (Γ' := gR (.da z) (.da o) (.da w) (.da (.rf 0))) (app_at (j := 0) (ds := [tN o, tN o]) rfl rfl (by simp) (p3 ho))).trans ?_
  refine (seq_at (Γ' := gR (.da z) (.da o) (.da w) (.da (.rf 0))) (app_at (j := 0) (ds := [tN o, tN o, tN o]) rfl rfl (by simp) (p4 ho))).trans ?_
  refine (seq_at (cmp_ok ho)).trans ?_
  refine (seq_at (nwl_at (p5 hz hw))).trans ?_
  refine (seq_at (Γ' := gR (.da z) (.da o) (.da w) (.da (.rf 1))) (app_at (j := 1) (ds := [tW]) rfl rfl (by simp) (p6 hz hw))).trans ?_
  exact end_ok
end

theorem A0 (l : List Nat) (s2 s5 s6 s7 s8 s9 s10 : Sl) : (List.range 64).map (fun (w : Nat) => outA (evS bodyA (qOf fLaw tabL true) [.un, .da .pen, s2, .da (.str "a"), .da (.int ((w : Int) + 1)), s5, s6, s7, s8, s9, s10] (l, []))) = List.replicate 64 (some l) := by kernel_rfl
theorem A1 (l : List Nat) (s2 s5 s6 s7 s8 s9 s10 : Sl) : (List.range 64).map (fun (w : Nat) => outA (evS bodyA (qOf fLaw tabL true) [.un, .da .pen, s2, .da (.str "b"), .da (.int ((w : Int) + 1)), s5, s6, s7, s8, s9, s10] (l, []))) = List.replicate 64 (some l) := by kernel_rfl
theorem A2 (l : List Nat) (s2 s5 s6 s7 s8 s9 s10 : Sl) : (List.range 64).map (fun (w : Nat) => outA (evS bodyA (qOf fLaw tabL true) [.un, .da .pen, s2, .da (.str "zzzzzzzz"), .da (.int ((w : Int) + 1)), s5, s6, s7, s8, s9, s10] (l, []))) = List.replicate 64 (some l) := by kernel_rfl
theorem A3 (l : List Nat) (s2 s5 s6 s7 s8 s9 s10 : Sl) : (List.range 64).map (fun (w : Nat) => outA (evS bodyA (qOf fLaw tabL true) [.un, .da .pen, s2, .da (.str "a.b"), .da (.int ((w : Int) + 1)), s5, s6, s7, s8, s9, s10] (l, []))) = List.replicate 64 (some l) := by kernel_rfl
theorem A4 (l : List Nat) (s2 s5 s6 s7 s8 s9 s10 : Sl) : (List.range 64).map (fun (w : Nat) => outA (evS bodyA (qOf fLaw tabL true) [.un, .da .pen, s2, .da (.str "left.hot.trim.x"), .da (.int ((w : Int) + 1)), s5, s6, s7, s8, s9, s10] (l, []))) = List.replicate 64 (some l) := by kernel_rfl
theorem A5 (l : List Nat) (s2 s5 s6 s7 s8 s9 s10 : Sl) : (List.range 64).map (fun (w : Nat) => outA (evS bodyA (qOf fLaw tabL true) [.un, .da .pen, s2, .da (.str "end"), .da (.int ((w : Int) + 1)), s5, s6, s7, s8, s9, s10] (l, []))) = List.replicate 64 (some l) := by kernel_rfl
theorem A6 (l : List Nat) (s2 s5 s6 s7 s8 s9 s10 : Sl) : (List.range 64).map (fun (w : Nat) => outA (evS bodyA (qOf fLaw tabL true) [.un, .da .pen, s2, .da (.str "tool"), .da (.int ((w : Int) + 1)), s5, s6, s7, s8, s9, s10] (l, []))) = List.replicate 64 (some l) := by kernel_rfl
theorem A7 (l : List Nat) (s2 s5 s6 s7 s8 s9 s10 : Sl) : (List.range 64).map (fun (w : Nat) => outA (evS bodyA (qOf fLaw tabL true) [.un, .da .pen, s2, .da (.str "a.a"), .da (.int ((w : Int) + 1)), s5, s6, s7, s8, s9, s10] (l, []))) = List.replicate 64 (some l) := by kernel_rfl

def dropT : Nat → Ts → Ts
  | 0, t => t
  | k + 1, .seq _ b => dropT k b
  | _ + 1, _ => .next
theorem cut_ok {q : Qc} : ∀ (k : Nat) (t : Ts) {Γ Γ' : List Sl} {l l' : Sta}, evS (cut k t) q Γ l = some (.ok (.nx Γ'), l') → evS t q Γ l = evS (dropT k t) q Γ' l'
  | 0, t, Γ, Γ', l, l', h => by
    have h : some (Re.ok (Fl.nx Γ), l) = some (Re.ok (Fl.nx Γ'), l') := h
    cases h
    rfl
  | k + 1, t, Γ, Γ', l, l', h => by
    cases t with
    | seq a b =>
      have h : evS (.seq a (cut k b)) q Γ l = some (.ok (.nx Γ'), l') := h
      rw [evS_seq] at h
      show evS (.seq a b) q Γ l = evS (dropT k b) q Γ' l'
      rw [evS_seq]
      unfold Ev.bind at h ⊢
      cases e : evS a q Γ l with
      | none => rw [e] at h; cases h
      | some x =>
        obtain ⟨r, l1⟩ := x
        rw [e] at h
        cases r with
        | ex cn es => cases h
        | ok fl =>
          cases fl with
          | nx Γ1 => exact cut_ok k b h
          | rt d => cases h
          | bk d => cases h
          | ct d => cases h
    | _ => exact h
abbrev Inv (Γ : List Sl) : Prop := ∃ s2 s3 s4 s5 s6 s7 s8 s9 s10 : Sl, Γ = [.un, .da .pen, s2, s3, s4, s5, s6, s7, s8, s9, s10]
theorem outA_ok {x : Option (Re Fl × Sta)} {l : List Nat} (h : outA x = some l) : ∃ Γ', x = some (.ok (.nx Γ'), (l, [])) ∧ Inv Γ' := by
  unfold outA at h
  split at h
  · cases h
    exact ⟨_, rfl, _, _, _, _, _, _, _, _, _, rfl⟩
  · cases h
theorem get_rep {f : Nat → Option (List Nat)} {a : Option (List Nat)} {n w : Nat} (h : (List.range n).map f = List.replicate n a) (hw : w < n) : f w = a := by
  have h2 := congrArg (fun t => t[w]?) h
  simpa [hw] using h2
abbrev qL : Qc := qOf fLaw tabL true
theorem A_ok {z : Dt} (hz : z ∈ labT) {w : Nat} (hw : w < 64) (l : List Nat) (s2 s5 s6 s7 s8 s9 s10 : Sl) : ∃ Γ', evS bodyA qL [.un, .da .pen, s2, .da z, .da (.int ((w : Int) + 1)), s5, s6, s7, s8, s9, s10] (l, []) = some (.ok (.nx Γ'), (l, [])) ∧ Inv Γ' := by
  simp only [labT, List.mem_cons, List.mem_nil_iff, or_false] at hz
  rcases hz with rfl | rfl | rfl | rfl | rfl | rfl | rfl | rfl
  · exact outA_ok (get_rep (A0 l s2 s5 s6 s7 s8 s9 s10) hw)
  · exact outA_ok (get_rep (A1 l s2 s5 s6 s7 s8 s9 s10) hw)
  · exact outA_ok (get_rep (A2 l s2 s5 s6 s7 s8 s9 s10) hw)
  · exact outA_ok (get_rep (A3 l s2 s5 s6 s7 s8 s9 s10) hw)
  · exact outA_ok (get_rep (A4 l s2 s5 s6 s7 s8 s9 s10) hw)
  · exact outA_ok (get_rep (A5 l s2 s5 s6 s7 s8 s9 s10) hw)
  · exact outA_ok (get_rep (A6 l s2 s5 s6 s7 s8 s9 s10) hw)
  · exact outA_ok (get_rep (A7 l s2 s5 s6 s7 s8 s9 s10) hw)
abbrev tWide : Te := .call false 1024 (.cons (.var 1) (.cons (.lst (.cons (.int 1) (.cons (.int 2) (.cons (.int 64) (.cons (.op .add (.int 1) (.call false 0 (.cons (.var 1) (.cons (.int 64) .nil)))) .nil))))) .nil))
theorem wide_at {Γ : List Sl} (hv : varE Γ 1 = some .pen) {x y : Nat} {l : List Nat} {s : List Dt} : ∃ w : Nat, w < 64 ∧ evE tWide qL Γ (x :: y :: l, s) = some (.ok (.int ((w : Int) + 1)), (l, s)) := by
  have hv1 : ∀ L, evE (.var 1) qL Γ L = some (.ok .pen, L) := fun L => by rw [evE_var, hv]; rfl
  have hd : evE (.call false 0 (.cons (.var 1) (.cons (.int 64) .nil))) qL Γ (x :: y :: l, s) = some (.ok (.int ((x : Int) % 64)), (y :: l, s)) :=
    call_at (ds := [.pen, .int 64]) (l' := (x :: y :: l, s)) (consA_at (hv1 _) rfl) (show drawF [.pen, .int 64] (x :: y :: l, s) = _ from draw_x (by decide) (by decide))
  have ho : evE (.op .add (.int 1) (.call false 0 (.cons (.var 1) (.cons (.int 64) .nil)))) qL Γ (x :: y :: l, s) = some (.ok (.int (1 + (x : Int) % 64)), (y :: l, s)) := by
    rw [evE_op, bind_at (f := evE (.int 1) qL Γ) (a := .int 1) (l' := (x :: y :: l, s)) rfl, bind_at hd]
    rfl
  have hl : evE (.lst (.cons (.int 1) (.cons (.int 2) (.cons (.int 64) (.cons (.op .add (.int 1) (.call false 0 (.cons (.var 1) (.cons (.int 64) .nil)))) .nil))))) qL Γ (x :: y :: l, s) = some (.ok (.lst [.int 1, .int 2, .int 64, .int (1 + (x : Int) % 64)]), (y :: l, s)) := by
    rw [evE_lst, bind_at (consA_at (l' := (x :: y :: l, s)) rfl (consA_at (l' := (x :: y :: l, s)) rfl (consA_at (l' := (x :: y :: l, s)) rfl (consA_at ho rfl))))]
    rfl
  obtain ⟨d, hd, e⟩ := pick_at (ds := [.int 1, .int 2, .int 64, .int (1 + (x : Int) % 64)]) (x := y) (l := l) (s := s) (Nat.succ_pos _) (Nat.lt_trans (Nat.lt_succ_self 4) (by decide : 5 < 1073741824))
  have e2 : evE tWide qL Γ (x :: y :: l, s) = some (.ok d, (l, s)) := call_at (consA_at (hv1 _) (consA_at hl rfl)) (by rw [show qL.f 1024 = e__law_pick from by kernel_rfl]; exact e)
  simp only [List.mem_cons, List.mem_nil_iff, or_false] at hd
  rcases hd with rfl | rfl | rfl | rfl
  · exact ⟨0, by decide, e2⟩
  · exact ⟨1, by decide, e2⟩
  · exact ⟨63, by decide, e2⟩
  · refine ⟨x % 64, Nat.mod_lt _ (by decide), ?_⟩
    rw [e2, show (1 + (x : Int) % 64) = ((x % 64 : Nat) : Int) + 1 by omega]
theorem turn_ok {Γ : List Sl} (I : Inv Γ) (d : Dt) (a b c e f g : Nat) (l : List Nat) : ∃ Γ', evS bodyL qL (Γ.set 2 (.da d)) (a :: b :: c :: e :: f :: g :: l, []) = some (.ok (.nx Γ'), (l, [])) ∧ Inv Γ' := by
  obtain ⟨s2, s3, s4, s5, s6, s7, s8, s9, s10, rfl⟩ := I
  have h : ∃ rest, bodyL = .seq (.par 3 4 (.call false 1026 (.cons (.var 1) .nil)) tWide) rest ∧ bodyA = cut 9 rest ∧ dropT 9 rest = .ifS (.not_ (.tr (.call false 1028 (.cons (.var 1) .nil)))) (.ret (.bl false)) .next := ⟨_, rfl, rfl, rfl⟩
  obtain ⟨rest, h1, h2, h3⟩ := h
  obtain ⟨z, hz, e1⟩ := label_at (x := a) (l := b :: c :: e :: f :: g :: l) (s := [])
  obtain ⟨w, hw, e2⟩ := wide_at (Γ := [.un, .da .pen, .da d, s3, s4, s5, s6, s7, s8, s9, s10]) rfl (x := b) (y := c) (l := e :: f :: g :: l) (s := [])
  obtain ⟨Γ1, e3, I1⟩ := A_ok hz hw (e :: f :: g :: l) (.da d) s5 s6 s7 s8 s9 s10
  refine ⟨Γ1, ?_, I1⟩
  rw [h1]
  have p : evS (.par 3 4 (.call false 1026 (.cons (.var 1) .nil)) tWide) qL [.un, .da .pen, .da d, s3, s4, s5, s6, s7, s8, s9, s10] (a :: b :: c :: e :: f :: g :: l, []) = some (.ok (.nx [.un, .da .pen, .da d, .da z, .da (.int ((w : Int) + 1)), s5, s6, s7, s8, s9, s10]), (e :: f :: g :: l, [])) := by
    rw [evS_par, bind_at (call_at (ds := [.pen]) (l' := (a :: b :: c :: e :: f :: g :: l, [])) rfl e1), bind_at e2]
    rfl
  refine (seq_at p).trans ?_
  rw [h2] at e3
  rw [cut_ok 9 rest e3, h3]
  obtain ⟨t2, t3, t4, t5, t6, t7, t8, t9, t10, rfl⟩ := I1
  refine (ifS_at (not_atT (tr_bl (call_at (ds := [.pen]) (l' := (e :: f :: g :: l, [])) rfl refused_at)))).trans ?_
  rfl
theorem tail_ok {Γ : List Sl} (I : Inv Γ) (l : List Nat) {t : Ts} (ht : ∃ a, tm_law = .seq a t) : evS t qL Γ (l, []) = some (.ok (.rt (.bl true)), (l, [])) := by
  obtain ⟨s2, s3, s4, s5, s6, s7, s8, s9, s10, rfl⟩ := I
  obtain ⟨a, ha⟩ := ht
  cases ha
  kernel_rfl
theorem law_ok : ∀ l : List Nat, l.length = law_n → ∃ l', evS tm_law (qOf F_law tabL true) (gam1 mL) (l, []) = some (.ok (.rt (.bl true)), l') := by
  intro l hl
  rw [law_eq]
  have h : ∃ t, tm_law = .seq (.for_ (.rng1 (.cons (.int 8) .nil)) (.name 2) bodyL) t := ⟨_, rfl⟩
  obtain ⟨t, ht⟩ := h
  have I0 : Inv (gam1 mL) := ⟨_, _, _, _, _, _, _, _, _, rfl⟩
  obtain ⟨Γ', l', h1, I1, h2⟩ := evFor_wp (b := fun d Γ' => (Ev.of (evG (.name 2) d Γ')).bind fun Γ2 => evS bodyL qL Γ2) (I := Inv) 6 (upTo 0 8) (gam1 mL) l (by rw [upTo_length, hl]; decide) I0 (fun d _ Γ l I hl => by
    match l, hl with
    | a :: b :: c :: e :: f :: g :: l, _ =>
      obtain ⟨Γ', e1, I'⟩ := turn_ok I d a b c e f g l
      exact ⟨Γ', l, e1, I', by simp⟩)
  refine ⟨(l', []), ?_⟩
  have hf : evS (.for_ (.rng1 (.cons (.int 8) .nil)) (.name 2) bodyL) qL (gam1 mL) (l, []) = some (.ok (.nx Γ'), (l', [])) := by
    rw [evS_for_, rng_ev (w := 8) rfl (by decide), Ev.pure_bind]
    exact h1
  have tl := tail_ok I1 l' ⟨_, ht⟩
  rw [ht]
  exact (seq_at hf).trans tl
theorem law_ev : ∀ l : List Nat, l.length = law_n → ∃ l', evS tm_law (qOf F_law tabL true) (gam1 mL) (l, []) = some (.ok (.rt (.bl true)), l') := law_ok
abbrev N__law_pen : List Str := ["_law_script"]
abbrev N__law_draw : List Str := ["_law_pen_here", "_law_many", "_law_digit", "_law_at", "_law_raw", "_law_great", "_law_mixed"]
def t__law_draw (K : PySem.W.Frag) (mg : Str → Option Value) (T : List (Addr × Str)) : TS := (tSeq (tIfS (tTest (tOp rGt (tOp (rIx K) (tVar 0) (tC (.int 2))) (tC (.int 0)))) (tSeq (tAsg (tOp rMod (tCB rInt (tCons (tOp (rIx K) (tVar 0) (tC (.int 2))) tNil)) (tVar 1)) (gName 2))
    (tSeq (tAsg (tOp rDiv (tCB rInt (tCons (tOp (rIx K) (tVar 0) (tC (.int 2))) tNil)) (tVar 1)) (gSub (tVar 0) (tC (.int 2)) rSetL))
    (tRet (tVar 2)))) tNext)
    (tSeq (tAsg (tOp (rIx K) (tVar 0) (tC (.int 1))) (gName 3))
    (tSeq (tAsg (tOp (rAdd K) (tVar 3) (tC (.int 1))) (gSub (tVar 0) (tC (.int 1)) rSetL))
    (tSeq (tAsg (tOp (rAdd K) (tOp (rMulX K) (tC (.int 7333)) (tVar 3)) (tC (.int 441))) (gName 4))
    (tSeq (tIfS (tTest (tOp (rNeX K) (tOp (rIx K) (tVar 0) (tC (.int 0))) (tLst tNil))) (tAsg (tOp (rIx K) (tOp (rIx K) (tVar 0) (tC (.int 0))) (tOp rMod (tCB rInt (tCons (tVar 3) tNil)) (tCB (rLen K) (tCons (tOp (rIx K) (tVar 0) (tC (.int 0))) tNil)))) (gName 4)) tNext)
    (tSeq (tIfS (tAnd (tTest (tOp (rLtX K) (tVar 3) (tCB (rLen K) (tCons (tOp (rIx K) (tVar 0) (tC (.int 0))) tNil)))) (tTest (tOp rGe (tCB rAbs (tCons (tVar 4) tNil)) (tOp rPow (tC (.int 10)) (tC (.int 18)))))) (tSeq (tAsg (tOp (rAdd K) (tOp (rMulX K) (tC (.int 2)) (tCB rAbs (tCons (tVar 4) tNil))) (tCB rInt (tCons (tOp (rLtX K) (tVar 4) (tC (.int 0))) tNil))) (gName 5))
    (tSeq (tAsg (tOp rDiv (tCB rInt (tCons (tVar 5) tNil)) (tVar 1)) (gSub (tVar 0) (tC (.int 2)) rSetL))
    (tRet (tOp rMod (tCB rInt (tCons (tVar 5) tNil)) (tVar 1))))) tNext)
    (tSeq (tAsg (tOp rMod (tCB rInt (tCons (tOp rPow (tOp (rAdd K) (tOp (rAdd K) (tOp rMod (tCB rInt (tCons (tVar 4) tNil)) (tC (.int 2147483549))) (tOp (rMulX K) (tC (.int 7333)) (tVar 3))) (tC (.int 441))) (tC (.int 5))) tNil)) (tC (.int 2147483629))) (gName 6))
    (tSeq (tAsg (tOp rMod (tCB rInt (tCons (tOp rPow (tOp (rAdd K) (tOp (rAdd K) (tOp (rMulX K) (tVar 6) (tOp (rAdd K) (tVar 3) (tC (.int 30021)))) (tOp (rMulX K) (tOp (rMulX K) (tC (.int 60033)) (tVar 3)) (tVar 3))) (tC (.int 29))) (tC (.int 3))) tNil)) (tC (.int 2147483587))) (gName 6))
    (tRet (tOp rMod (tCB rInt (tCons (tOp rDiv (tVar 6) (tC (.int 32))) tNil)) (tVar 1)))))))))))
abbrev N__law_pick : List Str := ["_law_pen_here", "_law_some"]
def t__law_pick (K : PySem.W.Frag) (mg : Str → Option Value) (T : List (Addr × Str)) : TS := (tRet (tOp (rIxX K) (tVar 1) (tCB (fun vs H Q => spE K mg T drawF vs H Q E0) (tCons (tVar 0) (tCons (tCB (rLen K) (tCons (tVar 1) tNil)) tNil)))))
abbrev N__law_label : List Str := ["_law_pen_here"]
def t__law_label (K : PySem.W.Frag) (mg : Str → Option Value) (T : List (Addr × Str)) : TS := (tRet (tCB (fun vs H Q => spE K mg T e__law_pick vs H Q E0) (tCons (tVar 0) (tCons (tLst (tCons (tC (.str ("a" : Str))) (tCons (tC (.str ("b" : Str))) (tCons (tC (.str ("zzzzzzzz" : Str))) (tCons (tC (.str ("a.b" : Str))) (tCons (tC (.str ("left.hot.trim.x" : Str))) (tCons (tC (.str ("end" : Str))) (tCons (tC (.str ("tool" : Str))) (tCons (tC (.str ("a.a" : Str))) tNil))))))))) tNil))))
abbrev N_is_simple : List Str := ["value", "sign"]
def t_is_simple (K : PySem.W.Frag) (mg : Str → Option Value) (T : List (Addr × Str)) : TS := (tSeq (tIfS (tOr (tNot (tTr K (tCB (rIsi K) (tCons (tVar 0) (tCons (tC (.ty "str")) tNil))))) (tNot (tTest (tChain rLe rLe (tC (.int 1)) (tCB (rLen K) (tCons (tVar 0) tNil)) (tC (.int 8)))))) (tRet (tC (.bl false))) tNext)
    (tRet (tCB (rAll K) (tCons (tLc (iSq K (tVar 0)) (gName 1) tYes (tOp (rInY K false) (tVar 1) (tC (.str ("abcdefghijklmnopqrstuvwxyz" : Str)))) [1]) tNil))))
abbrev N_is_name : List Str := ["value", "words", "word"]
def t_is_name (K : PySem.W.Frag) (mg : Str → Option Value) (T : List (Addr × Str)) : TS := (tSeq (tIfS (tNot (tTr K (tCB (rIsi K) (tCons (tVar 0) (tCons (tC (.ty "str")) tNil))))) (tRet (tC (.bl false))) tNext)
    (tSeq (tAsg (tM1 rSplit (tVar 0) (tC (.str ("." : Str)))) (gName 1))
    (tRet (tAndT K (tOp rLe (tCB (rLen K) (tCons (tVar 1) tNil)) (tC (.int 4))) (tCB (rAll K) (tCons (tLc (iSq K (tVar 1)) (gName 2) tYes (tCB (fun vs H Q => spE K mg T e_is_simple vs H Q E0) (tCons (tVar 2) tNil)) [2]) tNil))))))
abbrev N_Partu_initu : List Str := ["self", "name"]
def t_Partu_initu (K : PySem.W.Frag) (mg : Str → Option Value) (T : List (Addr × Str)) (E : XK) : TS := (tSeq (tIfS (tNot (tTr K (tCB (fun vs H Q => spE K mg T e_is_name vs H Q E0) (tCons (tVar 1) tNil)))) (tRaiseS (He.ga K "InvalidName") "value" (fun cls d _ H => E cls d H) (tCons (tVar 1) tNil)) tNext)
    (sFld K (tVar 0) (tVar 1) "name"))
abbrev N_is_integer : List Str := ["value"]
def t_is_integer (K : PySem.W.Frag) (mg : Str → Option Value) (T : List (Addr × Str)) : TS := (tRet (tAndT K (tCB (rIsi K) (tCons (tVar 0) (tCons (tC (.ty "int")) tNil))) (tNotT K (tCB (rIsi K) (tCons (tVar 0) (tCons (tC (.ty "bool")) tNil))))))
abbrev N_is_between : List Str := ["value", "least", "most"]
def t_is_between (K : PySem.W.Frag) (mg : Str → Option Value) (T : List (Addr × Str)) : TS := (tRet (tAndT K (tCB (fun vs H Q => spE K mg T e_is_integer vs H Q E0) (tCons (tVar 0) tNil)) (tChain rLe rLe (tVar 1) (tVar 0) (tVar 2))))
abbrev N_Toolu_initu : List Str := ["self", "name", "width"]
def t_Toolu_initu (K : PySem.W.Frag) (mg : Str → Option Value) (T : List (Addr × Str)) (E : XK) : TS := (tSeq (tDrop (tSu K (fun id => spE K mg T (F_Toolu_initu id)) E 0 [("Tool", 167)] (tCons (tVar 1) tNil)))
    (tSeq (tIfS (tNot (tTr K (tCB (fun vs H Q => spE K mg T e_is_between vs H Q E0) (tCons (tVar 2) (tCons (tC (.int 1)) (tCons (tAt K (fun id => spE K mg T (F_Toolu_initu id)) "MOST" [("Tool", .int 64), ("Fork", .int 7)] (tVar 0)) tNil)))))) (tRaiseS (He.ga K "InvalidPart") "word" (fun cls d _ H => E cls d H) (tCons (tC (.str ("width" : Str))) tNil)) tNext)
    (sFld K (tVar 0) (tVar 2) "width")))
abbrev N_Part_cells : List Str := ["self"]
def t_Part_cells (K : PySem.W.Frag) (mg : Str → Option Value) (T : List (Addr × Str)) : TS := (tRet (tC (.int 0)))
abbrev N_Tool_cells : List Str := ["self"]
def t_Tool_cells (K : PySem.W.Frag) (mg : Str → Option Value) (T : List (Addr × Str)) : TS := (tRet (tOp (rAdd K) (tSu K (fun id => spE K mg T (F_Tool_cells id)) E0 0 [("Tool", 168)] tNil) (tAt K (fun id => spE K mg T (F_Tool_cells id)) "width" [("Tool", .fld)] (tVar 0))))
abbrev N_number_width : List Str := ["many"]
def t_number_width (K : PySem.W.Frag) (mg : Str → Option Value) (T : List (Addr × Str)) : TS := (tRet (tIf (tTest (tOp (rEqX K) (tVar 0) (tC (.int 1)))) (tC (.int 1)) (tIf (tTest (tOp (rLtX K) (tVar 0) (tC (.int 4)))) (tC (.int 2)) (tC (.int 3)))))
abbrev N_Fork_lines : List Str := ["self"]
def t_Fork_lines (K : PySem.W.Frag) (mg : Str → Option Value) (T : List (Addr × Str)) : TS := (tRet (tAt K (fun id => spE K mg T (F_Fork_lines id)) "own_lines" [("Fork", .fld)] (tVar 0)))
abbrev N_Fork_cells : List Str := ["self"]
def t_Fork_cells (K : PySem.W.Frag) (mg : Str → Option Value) (T : List (Addr × Str)) : TS := (tRet (tOp (rAdd K) (tSu K (fun id => spE K mg T (F_Fork_cells id)) E0 0 [("Fork", 168)] tNil) (tCB (fun vs H Q => spE K mg T e_number_width vs H Q E0) (tCons (tCB (rLen K) (tCons (tAt K (fun id => spE K mg T (F_Fork_cells id)) "lines" [("Fork", .prop 177)] (tVar 0)) tNil)) tNil))))
abbrev N_Partu_equ : List Str := ["self", "other"]
def t_Partu_equ (K : PySem.W.Frag) (mg : Str → Option Value) (T : List (Addr × Str)) : TS := (tRet (tC (.bl false)))
abbrev N_Toolu_equ : List Str := ["self", "other"]
def t_Toolu_equ (K : PySem.W.Frag) (mg : Str → Option Value) (T : List (Addr × Str)) : TS := (tRet (tAndT K (tCB (rIsi K) (tCons (tVar 1) (tCons (tC (.ref (He.ga K "Tool"))) tNil))) (tAndT K (tOp (rEqX K) (tAt K (fun id => spE K mg T (F_Toolu_equ id)) "name" [("Part", .fld), ("Tool", .fld), ("Fork", .fld)] (tVar 0)) (tAt K (fun id => spE K mg T (F_Toolu_equ id)) "name" [("Part", .fld), ("Tool", .fld), ("Fork", .fld)] (tVar 1))) (tOp (rEqX K) (tAt K (fun id => spE K mg T (F_Toolu_equ id)) "width" [("Tool", .fld)] (tVar 0)) (tAt K (fun id => spE K mg T (F_Toolu_equ id)) "width" [("Tool", .fld)] (tVar 1))))))
abbrev N_Forku_equ : List Str := ["self", "other"]
def t_Forku_equ (K : PySem.W.Frag) (mg : Str → Option Value) (T : List (Addr × Str)) : TS := (tRet (tAndT K (tCB (rIsi K) (tCons (tVar 1) (tCons (tC (.ref (He.ga K "Fork"))) tNil))) (tAndT K (tOp (rEqX K) (tAt K (fun id => spE K mg T (F_Forku_equ id)) "name" [("Part", .fld), ("Tool", .fld), ("Fork", .fld)] (tVar 0)) (tAt K (fun id => spE K mg T (F_Forku_equ id)) "name" [("Part", .fld), ("Tool", .fld), ("Fork", .fld)] (tVar 1))) (tOp (rEqX K) (tAt K (fun id => spE K mg T (F_Forku_equ id)) "lines" [("Fork", .prop 177)] (tVar 0)) (tAt K (fun id => spE K mg T (F_Forku_equ id)) "lines" [("Fork", .prop 177)] (tVar 1))))))
abbrev N_is_line : List Str := ["value", "part"]
def t_is_line (K : PySem.W.Frag) (mg : Str → Option Value) (T : List (Addr × Str)) : TS := (tSeq (tIfS (tOr (tNot (tTr K (tCB (rIsiT K) (tCons (tVar 0) (tCons (tTup (tCons (tC (.ty "tuple")) (tCons (tC (.ty "list")) tNil))) tNil))))) (tTest (tOp (rEqX K) (tCB (rLen K) (tCons (tVar 0) tNil)) (tC (.int 0))))) (tRet (tC (.bl false))) tNext)
    (tRet (tCB (rAll K) (tCons (tLc (iSq K (tVar 0)) (gName 1) tYes (tCB (rIsiT K) (tCons (tVar 1) (tCons (tTup (tCons (tC (.ref (He.ga K "Tool"))) (tCons (tC (.ref (He.ga K "Fork"))) tNil))) tNil))) [1]) tNil))))
abbrev N_Forku_initu : List Str := ["self", "name", "lines", "line"]
def t_Forku_initu (K : PySem.W.Frag) (mg : Str → Option Value) (T : List (Addr × Str)) (E : XK) : TS := (tSeq (tDrop (tSu K (fun id => spE K mg T (F_Forku_initu id)) E 0 [("Fork", 167)] (tCons (tVar 1) tNil)))
    (tSeq (tIfS (tNot (tTest (tChain rLe rLe (tC (.int 1)) (tCB (rLen K) (tCons (tVar 2) tNil)) (tAt K (fun id => spE K mg T (F_Forku_initu id)) "MOST" [("Tool", .int 64), ("Fork", .int 7)] (tVar 0))))) (tRaiseS (He.ga K "InvalidPart") "word" (fun cls d _ H => E cls d H) (tCons (tC (.str ("many" : Str))) tNil)) tNext)
    (tSeq (tIfS (tNot (tTr K (tCB (rAll K) (tCons (tLc (iSq K (tVar 2)) (gName 3) tYes (tCB (fun vs H Q => spE K mg T e_is_line vs H Q E0) (tCons (tVar 3) tNil)) [3]) tNil)))) (tRaiseS (He.ga K "InvalidPart") "word" (fun cls d _ H => E cls d H) (tCons (tC (.str ("line" : Str))) tNil)) tNext)
    (sFld K (tVar 0) (tCB (rTuple K) (tCons (tLc (iSq K (tVar 2)) (gName 3) tYes (tCB (rTuple K) (tCons (tVar 3) tNil)) [3]) tNil)) "own_lines"))))
abbrev N__law_odd_label : List Str := ["_law_pen_here", "_law_some"]
def t__law_odd_label (K : PySem.W.Frag) (mg : Str → Option Value) (T : List (Addr × Str)) : TS := (tSeq (tAsg (tLst (tCons (tC (.str ("" : Str))) (tCons (tC (.str ("." : Str))) (tCons (tC (.str ("a." : Str))) (tCons (tC (.str ("A" : Str))) (tCons (tC (.str ("a b" : Str))) (tCons (tC (.str ("zzzzzzzzz" : Str))) (tCons (tC (.str ("a.b.c.d.e" : Str))) (tCons (tC (.str ("/" : Str))) (tCons (tC .non) (tCons (tC (.bl true)) (tCons (tC (.int 0)) (tCons (tTup (tCons (tC (.str ("a" : Str))) tNil)) (tCons (tLst (tCons (tC (.str ("a" : Str))) tNil)) (tCons tDNewK (tCons (tC (.str ("a1" : Str))) (tCons (tC (.str ("a\n" : Str))) tNil))))))))))))))))) (gName 1))
    (tRet (tCB (fun vs H Q => spE K mg T e__law_pick vs H Q E0) (tCons (tVar 0) (tCons (tVar 1) tNil)))))
abbrev N__law_heard : List Str := ["_law_ask", "_law_caught", "error"]
def k__law_heard (K : PySem.W.Frag) (mg : Str → Option Value) : Addr → Value → Option Addr → TS := fun a cls d => (tSeq (tIfS (tTr K (tCB (rIsHV K a cls d) (tCons (tVar 1) (tCons (tC (.ref (He.ga K "InvalidName"))) tNil)))) (tRet (tTup (tCons (tC (.str ("name" : Str))) (tCons (tCB (rRepr K) (tCons (tHVf K a cls d "value" (tVar 1)) tNil)) tNil)))) tNext)
    (tRet (tIf (tTr K (tCB (rIsHV K a cls d) (tCons (tVar 1) (tCons (tC (.ref (He.ga K "InvalidPart"))) tNil)))) (tTup (tCons (tC (.str ("part" : Str))) (tCons (tHVf K a cls d "word" (tVar 1)) tNil))) (tC (.str ("odd" : Str))))))
abbrev N__law_refused_right : List Str := ["_law_pen_here", "_law_label_here", "_law_odd", "_law_wide_so", "_law_told"]
def t__law_refused_right (K : PySem.W.Frag) (mg : Str → Option Value) (T : List (Addr × Str)) : TS := (tSeq (tAsg (tTup (tCons (tCB (fun vs H Q => spE K mg T e__law_label vs H Q E0) (tCons (tVar 0) tNil)) (tCons (tCB (fun vs H Q => spE K mg T e__law_odd_label vs H Q E0) (tCons (tVar 0) tNil)) tNil))) (gTup K 2 (gCons (gName 1) (gCons (gName 2) gNil))))
    (tSeq (tAsg (tCB (fun vs H Q => spE K mg T e__law_pick vs H Q E0) (tCons (tVar 0) (tCons (tLst (tCons (tC (.int 0)) (tCons (tC (.int 65)) (tCons (tUn (rU fun i => .int (-i)) (tC (.int 1))) (tCons (tC (.bl true)) (tCons (tC .non) (tCons (tC (.str ("4" : Str))) (tCons (tTup (tCons (tC (.int 4)) tNil)) (tCons (tLst (tCons (tC (.int 4)) tNil)) (tCons tDNewK (tCons (tOp rPow (tC (.int 10)) (tC (.int 59))) tNil))))))))))) tNil))) (gName 3))
    (tSeq (tAsg (tLst (tCons (LamX.tLam T (TTh K (He.ga K "PathError") 2 1 3 (k__law_heard K mg) wrL) (fun E => (tMk K (fun id => spE K mg T (F__law_refused_right id)) E "Part" 167 1 0 [] (tCons (tVar 2) tNil) tNil))) tNil)) (gName 4))
    (tSeq (tDrop (tBM K "list" rAppend (tVar 4) (tCons (LamX.tLam T (TTh K (He.ga K "PathError") 2 1 3 (k__law_heard K mg) wrL) (fun E => (tMk K (fun id => spE K mg T (F__law_refused_right id)) E "Part" 167 0 1 [0] tNil (tCons (tVar 2) tNil)))) tNil)))
    (tSeq (tDrop (tBM K "list" rAppend (tVar 4) (tCons (LamX.tLam T (TTh K (He.ga K "PathError") 2 1 3 (k__law_heard K mg) wrL) (fun E => (tMk K (fun id => spE K mg T (F__law_refused_right id)) E "Tool" 170 2 0 [] (tCons (tVar 2) (tCons (tVar 3) tNil)) tNil))) tNil)))
    (tSeq (tDrop (tBM K "list" rAppend (tVar 4) (tCons (LamX.tLam T (TTh K (He.ga K "PathError") 2 1 3 (k__law_heard K mg) wrL) (fun E => (tMk K (fun id => spE K mg T (F__law_refused_right id)) E "Tool" 170 0 2 [1, 0] tNil (tCons (tC (.int 3)) (tCons (tVar 2) tNil))))) tNil)))
    (tSeq (tIfS (tTest (tOp (rNeX K) (tVar 4) (tOp (rMulX K) (tLst (tCons (tTup (tCons (tC (.str ("name" : Str))) (tCons (tCB (rRepr K) (tCons (tVar 2) tNil)) tNil))) tNil)) (tC (.int 4))))) (tRet (tC (.bl false))) tNext)
    (tSeq (tAsg (tLst (tCons (LamX.tLam T (TTh K (He.ga K "PathError") 2 1 3 (k__law_heard K mg) wrL) (fun E => (tMk K (fun id => spE K mg T (F__law_refused_right id)) E "Tool" 170 2 0 [] (tCons (tVar 1) (tCons (tVar 3) tNil)) tNil))) tNil)) (gName 4))
    (tSeq (tDrop (tBM K "list" rAppend (tVar 4) (tCons (LamX.tLam T (TTh K (He.ga K "PathError") 2 1 3 (k__law_heard K mg) wrL) (fun E => (tMk K (fun id => spE K mg T (F__law_refused_right id)) E "Tool" 170 0 2 [1, 0] tNil (tCons (tVar 3) (tCons (tVar 1) tNil))))) tNil)))
    (tRet (tOp (rEqX K) (tVar 4) (tOp (rMulX K) (tLst (tCons (tTup (tCons (tC (.str ("part" : Str))) (tCons (tC (.str ("width" : Str))) tNil))) tNil)) (tC (.int 2))))))))))))))
abbrev N_law : List Str := ["_law_script", "_law_pen_here", "_law_turn", "_law_label_here", "_law_wide_so", "_law_made", "_law_same", "_law_mates", "_law_mate", "_law_plain", "_law_kinds_so"]
def r_law (K : PySem.W.Frag) (mg : Str → Option Value) (T : List (Addr × Str)) : TS := (tSeq (tFor (iRng1 (tCons (tC (.int 8)) tNil)) (gName 2) (tSeq (tPar 3 4 (tCons (tCB (fun vs H Q => spE K mg T e__law_label vs H Q E0) (tCons (tVar 1) tNil)) (tCons (tCB (fun vs H Q => spE K mg T e__law_pick vs H Q E0) (tCons (tVar 1) (tCons (tLst (tCons (tC (.int 1)) (tCons (tC (.int 2)) (tCons (tC (.int 64)) (tCons (tOp (rAdd K) (tC (.int 1)) (tCB (fun vs H Q => spE K mg T drawF vs H Q E0) (tCons (tVar 1) (tCons (tC (.int 64)) tNil)))) tNil))))) tNil))) tNil)))
    (tSeq (tAsg (tTup (tCons (tMk K (fun id => spE K mg T (F_law id)) E0 "Tool" 170 2 0 [] (tCons (tVar 3) (tCons (tVar 4) tNil)) tNil) (tCons (tMk K (fun id => spE K mg T (F_law id)) E0 "Tool" 170 0 2 [1, 0] tNil (tCons (tVar 4) (tCons (tVar 3) tNil))) tNil))) (gTup K 2 (gCons (gName 5) (gCons (gName 6) gNil))))
    (tSeq (tIfS (tTest (tOp (rNeX K) (tCB (rRepr K) (tCons (tLst (tCons (tAt K (fun id => spE K mg T (F_law id)) "name" [("Part", .fld), ("Tool", .fld), ("Fork", .fld)] (tVar 5)) (tCons (tAt K (fun id => spE K mg T (F_law id)) "width" [("Tool", .fld)] (tVar 5)) (tCons (tMe K (fun id => spE K mg T (F_law id)) E0 "cells" [("Part", 168), ("Tool", 171), ("Fork", 178)] (tVar 5) tNil) (tCons (tAt K (fun id => spE K mg T (F_law id)) "KIND" [("Part", .str "part"), ("Tool", .str "tool"), ("Fork", .str "fork")] (tVar 5)) tNil))))) tNil)) (tCB (rRepr K) (tCons (tLst (tCons (tVar 3) (tCons (tVar 4) (tCons (tVar 4) (tCons (tC (.str ("tool" : Str))) tNil))))) tNil)))) (tRet (tC (.bl false))) tNext)
    (tSeq (tIfS (tOr (tNot (tTest (tOp (rEqA K (fun id => spE K mg T (F_law id)) false [("Part", 169), ("Tool", 172), ("Fork", 180)]) (tVar 5) (tVar 6)))) (tOr (tTest (tOp (rEqA K (fun id => spE K mg T (F_law id)) true [("Part", 169), ("Tool", 172), ("Fork", 180)]) (tVar 5) (tVar 6))) (tNot (tTr K (tCB (rIsi K) (tCons (tVar 5) (tCons (tC (.ref (He.ga K "Part"))) tNil))))))) (tRet (tC (.bl false))) tNext)
    (tSeq (tAsg (tLst (tCons (tMk K (fun id => spE K mg T (F_law id)) E0 "Tool" 170 2 0 [] (tCons (tVar 3) (tCons (tIf (tTest (tOp (rLtX K) (tVar 4) (tC (.int 64)))) (tOp (rAdd K) (tVar 4) (tC (.int 1))) (tC (.int 1))) tNil)) tNil) (tCons (tMk K (fun id => spE K mg T (F_law id)) E0 "Tool" 170 2 0 [] (tCons (tOp (rAdd K) (tC (.str ("q" : Str))) (tSl (rSl K) (tVar 3) tNoPart (tPart (tC (.int 1))))) (tCons (tVar 4) tNil)) tNil) (tCons (tMk K (fun id => spE K mg T (F_law id)) E0 "Part" 167 1 0 [] (tCons (tVar 3) tNil) tNil) tNil)))) (gName 7))
    (tSeq (tAsg (tOp (rAdd K) (tVar 7) (tLst (tCons (tVar 3) (tCons (tVar 4) (tCons (tC .non) (tCons (tTup (tCons (tVar 3) (tCons (tVar 4) tNil))) (tCons (tMk K (fun id => spE K mg T (F_law id)) E0 "Fork" 176 2 0 [] (tCons (tVar 3) (tCons (tLst (tCons (tMk K (fun id => spE K mg T (F_law id)) E0 "Tool" 170 2 0 [] (tCons (tC (.str ("x" : Str))) (tCons (tVar 4) tNil)) tNil) tNil)) tNil)) tNil) tNil))))))) (gName 7))
    (tSeq (tIfS (tTest (tOp (rNeX K) (tLc (iSq K (tVar 7)) (gName 8) (tOr (tTest (tOp (rEqA K (fun id => spE K mg T (F_law id)) false [("Part", 169), ("Tool", 172), ("Fork", 180)]) (tVar 5) (tVar 8))) (tNot (tTest (tOp (rEqA K (fun id => spE K mg T (F_law id)) true [("Part", 169), ("Tool", 172), ("Fork", 180)]) (tVar 5) (tVar 8))))) (tVar 8) [8]) (tLst tNil))) (tRet (tC (.bl false))) tNext)
    (tSeq (tAsg (tMk K (fun id => spE K mg T (F_law id)) E0 "Part" 167 1 0 [] (tCons (tVar 3) tNil) tNil) (gName 9))
    (tSeq (tIfS (tTest (tOp (rNeX K) (tCB (rRepr K) (tCons (tLst (tCons (tAt K (fun id => spE K mg T (F_law id)) "name" [("Part", .fld), ("Tool", .fld), ("Fork", .fld)] (tVar 9)) (tCons (tMe K (fun id => spE K mg T (F_law id)) E0 "cells" [("Part", 168), ("Tool", 171), ("Fork", 178)] (tVar 9) tNil) (tCons (tAt K (fun id => spE K mg T (F_law id)) "KIND" [("Part", .str "part"), ("Tool", .str "tool"), ("Fork", .str "fork")] (tVar 9)) tNil)))) tNil)) (tCB (rRepr K) (tCons (tLst (tCons (tVar 3) (tCons (tC (.int 0)) (tCons (tC (.str ("part" : Str))) tNil)))) tNil)))) (tRet (tC (.bl false))) tNext)
    (tSeq (tIfS (tTest (tOp (rNeX K) (tLc (iSq K (tOp (rAdd K) (tVar 7) (tLst (tCons (tVar 5) (tCons (tVar 9) (tCons (tMk K (fun id => spE K mg T (F_law id)) E0 "Part" 167 1 0 [] (tCons (tVar 3) tNil) tNil) tNil)))))) (gName 8) (tOr (tTest (tOp (rEqA K (fun id => spE K mg T (F_law id)) false [("Part", 169), ("Tool", 172), ("Fork", 180)]) (tVar 9) (tVar 8))) (tNot (tTest (tOp (rEqA K (fun id => spE K mg T (F_law id)) true [("Part", 169), ("Tool", 172), ("Fork", 180)]) (tVar 9) (tVar 8))))) (tVar 8) [8]) (tLst tNil))) (tRet (tC (.bl false))) tNext)
    (tIfS (tNot (tTr K (tCB (fun vs H Q => spE K mg T e__law_refused_right vs H Q E0) (tCons (tVar 1) tNil)))) (tRet (tC (.bl false))) tNext))))))))))))
    (tSeq (tAsg (tLst (tCons (tC (.str ("part" : Str))) (tCons (tC (.str ("tool" : Str))) (tCons (tC (.str ("fork" : Str))) (tCons (tC (.str ("door" : Str))) tNil))))) (gName 10))
    (tRet (tAndT K (tOp (rEqX K) (tVar 10) (tLst (tCons (tC (.str ("part" : Str))) (tCons (tC (.str ("tool" : Str))) (tCons (tC (.str ("fork" : Str))) (tCons (tC (.str ("door" : Str))) tNil)))))) (tOp (rEqX K) (tCB (rRepr K) (tCons (tLst (tCons (tC (.int 64)) (tCons (tC (.int 7)) tNil))) tNil)) (tC (.str ("[64, 7]" : Str))))))))
def t_law (K : PySem.W.Frag) (mg : Str → Option Value) (T : List (Addr × Str)) : TS := tSeq (tAsg (tCB (fun vs H Q => spPen K T vs H Q E0) (tCons (tVar 0) tNil)) (gName 1)) (r_law K mg T)
theorem one_tab {a : Addr × Str} : ∀ p ∈ [a], p.1 = a.1 → p.2 = a.2 := fun p hp _ => by rw [List.mem_singleton.mp hp]
structure Glb (P : Program) (K : PySem.W.Frag) (mg : Str → Option Value) : Prop where
  n_abs : mg "abs" = none
  n_all : mg "all" = none
  n_bool : mg "bool" = none
  n_int : mg "int" = none
  n_isinstance : mg "isinstance" = none
  n_len : mg "len" = none
  n_list : mg "list" = none
  n_range : mg "range" = none
  n_repr : mg "repr" = none
  n_str : mg "str" = none
  n_tuple : mg "tuple" = none
  c_LETTERS : ∃ u, mg "LETTERS" = some u ∧ RelV (.str ("abcdefghijklmnopqrstuvwxyz" : Str)) u
  c_MOST_LETTERS : ∃ u, mg "MOST_LETTERS" = some u ∧ RelV (.int 8) u
  c_MOST_WORDS : ∃ u, mg "MOST_WORDS" = some u ∧ RelV (.int 4) u
  c_POINT : ∃ u, mg "POINT" = some u ∧ RelV (.str ("." : Str)) u
  m_Door : mg "Door" = some (.ref (He.ga K "Door"))
  m_Fork : mg "Fork" = some (.ref (He.ga K "Fork"))
  m_InvalidName : mg "InvalidName" = some (.ref (He.ga K "InvalidName"))
  m_InvalidPart : mg "InvalidPart" = some (.ref (He.ga K "InvalidPart"))
  m_Part : mg "Part" = some (.ref (He.ga K "Part"))
  m_PathError : mg "PathError" = some (.ref (He.ga K "PathError"))
  m_Tool : mg "Tool" = some (.ref (He.ga K "Tool"))
  sup_InvalidName : SupT P K mg (He.ga K "InvalidName") (He.ma K (He.ga K "InvalidName") "__init__") "value"
  sup_InvalidPart : SupT P K mg (He.ga K "InvalidPart") (He.ma K (He.ga K "InvalidPart") "__init__") "word"
  sysM : ∃ o, K.lookup sysModules = some o
  ec_InvalidName : ecB K (He.ga K "InvalidName") = true
  no_InvalidName_value : PySem.W.findIn K (.ref (He.ga K "InvalidName")) "value" = some none
  kit_InvalidName_InvalidName : PySem.W.kitOne K (.ref (He.ga K "InvalidName")) (.ref (He.ga K "InvalidName")) = some true
  kit_InvalidName_InvalidPart : PySem.W.kitOne K (.ref (He.ga K "InvalidName")) (.ref (He.ga K "InvalidPart")) = some false
  exm_InvalidName_PathError : PySem.W.exmOne K (.ref (He.ga K "InvalidName")) (.ref (He.ga K "PathError")) = some true
  ec_InvalidPart : ecB K (He.ga K "InvalidPart") = true
  no_InvalidPart_word : PySem.W.findIn K (.ref (He.ga K "InvalidPart")) "word" = some none
  kit_InvalidPart_InvalidName : PySem.W.kitOne K (.ref (He.ga K "InvalidPart")) (.ref (He.ga K "InvalidName")) = some false
  kit_InvalidPart_InvalidPart : PySem.W.kitOne K (.ref (He.ga K "InvalidPart")) (.ref (He.ga K "InvalidPart")) = some true
  exm_InvalidPart_PathError : PySem.W.exmOne K (.ref (He.ga K "InvalidPart")) (.ref (He.ga K "PathError")) = some true
  mk_Tool : Mk K (He.ga K "Tool") (He.ma K (He.ga K "Tool") "__init__")
  cls_Part : Cls K (He.ga K "Part")
  con_Part_KIND : ∃ u, Con K (He.ga K "Part") "KIND" (.str ("part" : Str)) u
  cls_Tool : Cls K (He.ga K "Tool")
  con_Tool_KIND : ∃ u, Con K (He.ga K "Tool") "KIND" (.str ("tool" : Str)) u
  cls_Fork : Cls K (He.ga K "Fork")
  con_Fork_KIND : ∃ u, Con K (He.ga K "Fork") "KIND" (.str ("fork" : Str)) u
  meth_Part_cells : Meth K (He.ga K "Part") "cells" (He.ma K (He.ga K "Part") "cells")
  meth_Tool_cells : Meth K (He.ga K "Tool") "cells" (He.ma K (He.ga K "Tool") "cells")
  meth_Fork_cells : Meth K (He.ga K "Fork") "cells" (He.ma K (He.ga K "Fork") "cells")
  noat_Tool_width : NoAttr K (He.ga K "Tool") "width"
  noat_Part_name : NoAttr K (He.ga K "Part") "name"
  noat_Tool_name : NoAttr K (He.ga K "Tool") "name"
  noat_Fork_name : NoAttr K (He.ga K "Fork") "name"
  eq_Part : EqC K "Part" "Part"
  eq_Tool : EqC K "Tool" "Tool"
  eq_Fork : EqC K "Fork" "Fork"
  mk_Part : Mk K (He.ga K "Part") (He.ma K (He.ga K "Part") "__init__")
  mk_Fork : Mk K (He.ga K "Fork") (He.ma K (He.ga K "Fork") "__init__")
  cv_Door_KIND : ClX.CRead K (He.ga K "Door") (.type "type") ∧ ∃ u, ClX.CVal K (He.ga K "Door") (.type "type") "KIND" (.str ("door" : Str)) u
  cv_Fork_KIND : ClX.CRead K (He.ga K "Fork") (.type "type") ∧ ∃ u, ClX.CVal K (He.ga K "Fork") (.type "type") "KIND" (.str ("fork" : Str)) u
  cv_Tool_KIND : ClX.CRead K (He.ga K "Tool") (.type "type") ∧ ∃ u, ClX.CVal K (He.ga K "Tool") (.type "type") "KIND" (.str ("tool" : Str)) u
  cv_Part_KIND : ClX.CRead K (He.ga K "Part") (.type "type") ∧ ∃ u, ClX.CVal K (He.ga K "Part") (.type "type") "KIND" (.str ("part" : Str)) u
  cv_Fork_MOST : ClX.CRead K (He.ga K "Fork") (.type "type") ∧ ∃ u, ClX.CVal K (He.ga K "Fork") (.type "type") "MOST" (.int 7) u
  cv_Tool_MOST : ClX.CRead K (He.ga K "Tool") (.type "type") ∧ ∃ u, ClX.CVal K (He.ga K "Tool") (.type "type") "MOST" (.int 64) u
  supm_Tool_Tool_uinitu : SupM K (He.ga K "Tool") (He.ga K "Tool") "__init__" (He.ma K (He.ga K "Part") "__init__")
  con_Tool_MOST : ∃ u, Con K (He.ga K "Tool") "MOST" (.int 64) u
  con_Fork_MOST : ∃ u, Con K (He.ga K "Fork") "MOST" (.int 7) u
  supm_Tool_Tool_cells : SupM K (He.ga K "Tool") (He.ga K "Tool") "cells" (He.ma K (He.ga K "Part") "cells")
  supm_Fork_Fork_cells : SupM K (He.ga K "Fork") (He.ga K "Fork") "cells" (He.ma K (He.ga K "Part") "cells")
  prop_Fork_lines : PropOf K (He.ga K "Fork") "lines" (He.ma K (He.ga K "Fork") "lines") (prG K "Fork" "lines")
  noat_Fork_own_lines : NoAttr K (He.ga K "Fork") "own_lines"
  supm_Fork_Fork_uinitu : SupM K (He.ga K "Fork") (He.ga K "Fork") "__init__" (He.ma K (He.ga K "Part") "__init__")
  ty_Part : TyC K (He.ga K "Part")
  ty_Tool : TyC K (He.ga K "Tool")
  ty_Fork : TyC K (He.ga K "Fork")
  kit_o_Part_Part : PySem.W.kitOne K (.ref (He.ga K "Part")) (.ref (He.ga K "Part")) = some true
  kit_o_Tool_Part : PySem.W.kitOne K (.ref (He.ga K "Tool")) (.ref (He.ga K "Part")) = some true
  kit_o_Fork_Part : PySem.W.kitOne K (.ref (He.ga K "Fork")) (.ref (He.ga K "Part")) = some true
  kit_t_none_Part : PySem.W.kitOne K (.type "NoneType") (.ref (He.ga K "Part")) = some false
  kit_t_bool_Part : PySem.W.kitOne K (.type "bool") (.ref (He.ga K "Part")) = some false
  kit_t_int_Part : PySem.W.kitOne K (.type "int") (.ref (He.ga K "Part")) = some false
  kit_t_str_Part : PySem.W.kitOne K (.type "str") (.ref (He.ga K "Part")) = some false
  kit_t_list_Part : PySem.W.kitOne K (.type "list") (.ref (He.ga K "Part")) = some false
  kit_t_tuple_Part : PySem.W.kitOne K (.type "tuple") (.ref (He.ga K "Part")) = some false
  kit_t_dict_Part : PySem.W.kitOne K (.type "dict") (.ref (He.ga K "Part")) = some false
  kit_o_Part_Tool : PySem.W.kitOne K (.ref (He.ga K "Part")) (.ref (He.ga K "Tool")) = some false
  kit_o_Tool_Tool : PySem.W.kitOne K (.ref (He.ga K "Tool")) (.ref (He.ga K "Tool")) = some true
  kit_o_Fork_Tool : PySem.W.kitOne K (.ref (He.ga K "Fork")) (.ref (He.ga K "Tool")) = some false
  kit_t_none_Tool : PySem.W.kitOne K (.type "NoneType") (.ref (He.ga K "Tool")) = some false
  kit_t_bool_Tool : PySem.W.kitOne K (.type "bool") (.ref (He.ga K "Tool")) = some false
  kit_t_int_Tool : PySem.W.kitOne K (.type "int") (.ref (He.ga K "Tool")) = some false
  kit_t_str_Tool : PySem.W.kitOne K (.type "str") (.ref (He.ga K "Tool")) = some false
  kit_t_list_Tool : PySem.W.kitOne K (.type "list") (.ref (He.ga K "Tool")) = some false
  kit_t_tuple_Tool : PySem.W.kitOne K (.type "tuple") (.ref (He.ga K "Tool")) = some false
  kit_t_dict_Tool : PySem.W.kitOne K (.type "dict") (.ref (He.ga K "Tool")) = some false
  kit_o_Part_Fork : PySem.W.kitOne K (.ref (He.ga K "Part")) (.ref (He.ga K "Fork")) = some false
  kit_o_Tool_Fork : PySem.W.kitOne K (.ref (He.ga K "Tool")) (.ref (He.ga K "Fork")) = some false
  kit_o_Fork_Fork : PySem.W.kitOne K (.ref (He.ga K "Fork")) (.ref (He.ga K "Fork")) = some true
  kit_t_none_Fork : PySem.W.kitOne K (.type "NoneType") (.ref (He.ga K "Fork")) = some false
  kit_t_bool_Fork : PySem.W.kitOne K (.type "bool") (.ref (He.ga K "Fork")) = some false
  kit_t_int_Fork : PySem.W.kitOne K (.type "int") (.ref (He.ga K "Fork")) = some false
  kit_t_str_Fork : PySem.W.kitOne K (.type "str") (.ref (He.ga K "Fork")) = some false
  kit_t_list_Fork : PySem.W.kitOne K (.type "list") (.ref (He.ga K "Fork")) = some false
  kit_t_tuple_Fork : PySem.W.kitOne K (.type "tuple") (.ref (He.ga K "Fork")) = some false
  kit_t_dict_Fork : PySem.W.kitOne K (.type "dict") (.ref (He.ga K "Fork")) = some false
  nf0_Part_Part : PySem.W.notFirst K (He.ga K "Part") (.ref (He.ga K "Part")) = true
  nf1_Part_Tool : ((Value.ref (He.ga K "Part")) != .ref (He.ga K "Tool")) = true ∧ PySem.W.subIn K (.ref (He.ga K "Tool")) (.ref (He.ga K "Part")) = some true
  nf1_Part_Fork : ((Value.ref (He.ga K "Part")) != .ref (He.ga K "Fork")) = true ∧ PySem.W.subIn K (.ref (He.ga K "Fork")) (.ref (He.ga K "Part")) = some true
  nft_Part_none : PySem.W.notFirst K (He.ga K "Part") (.type "NoneType") = true
  nft_Part_bool : PySem.W.notFirst K (He.ga K "Part") (.type "bool") = true
  nft_Part_int : PySem.W.notFirst K (He.ga K "Part") (.type "int") = true
  nft_Part_str : PySem.W.notFirst K (He.ga K "Part") (.type "str") = true
  nft_Part_list : PySem.W.notFirst K (He.ga K "Part") (.type "list") = true
  nft_Part_tuple : PySem.W.notFirst K (He.ga K "Part") (.type "tuple") = true
  nft_Part_dict : PySem.W.notFirst K (He.ga K "Part") (.type "dict") = true
  nf0_Tool_Part : PySem.W.notFirst K (He.ga K "Tool") (.ref (He.ga K "Part")) = true
  nf0_Tool_Tool : PySem.W.notFirst K (He.ga K "Tool") (.ref (He.ga K "Tool")) = true
  nf0_Tool_Fork : PySem.W.notFirst K (He.ga K "Tool") (.ref (He.ga K "Fork")) = true
  nft_Tool_none : PySem.W.notFirst K (He.ga K "Tool") (.type "NoneType") = true
  nft_Tool_bool : PySem.W.notFirst K (He.ga K "Tool") (.type "bool") = true
  nft_Tool_int : PySem.W.notFirst K (He.ga K "Tool") (.type "int") = true
  nft_Tool_str : PySem.W.notFirst K (He.ga K "Tool") (.type "str") = true
  nft_Tool_list : PySem.W.notFirst K (He.ga K "Tool") (.type "list") = true
  nft_Tool_tuple : PySem.W.notFirst K (He.ga K "Tool") (.type "tuple") = true
  nft_Tool_dict : PySem.W.notFirst K (He.ga K "Tool") (.type "dict") = true
  nf0_Fork_Part : PySem.W.notFirst K (He.ga K "Fork") (.ref (He.ga K "Part")) = true
  nf0_Fork_Tool : PySem.W.notFirst K (He.ga K "Fork") (.ref (He.ga K "Tool")) = true
  nf0_Fork_Fork : PySem.W.notFirst K (He.ga K "Fork") (.ref (He.ga K "Fork")) = true
  nft_Fork_none : PySem.W.notFirst K (He.ga K "Fork") (.type "NoneType") = true
  nft_Fork_bool : PySem.W.notFirst K (He.ga K "Fork") (.type "bool") = true
  nft_Fork_int : PySem.W.notFirst K (He.ga K "Fork") (.type "int") = true
  nft_Fork_str : PySem.W.notFirst K (He.ga K "Fork") (.type "str") = true
  nft_Fork_list : PySem.W.notFirst K (He.ga K "Fork") (.type "list") = true
  nft_Fork_tuple : PySem.W.notFirst K (He.ga K "Fork") (.type "tuple") = true
  nft_Fork_dict : PySem.W.notFirst K (He.ga K "Fork") (.type "dict") = true
  noS : mg "super" = none
local macro_rules | `(tactic| walk_at "e1") => `(tactic| first
  | ((with_reducible show We _ _ _ (tVar _) _); refine w_var rfl ?_)
  | with_reducible refine w_pen0 rfl fun _ => ?_
  | with_reducible refine w_opD ?_
  | with_reducible refine w_int ?_
  | with_reducible refine w_cbD ?_
  | with_reducible refine wa_cons ?_
  | with_reducible refine wa_nil ?_
  | with_reducible refine w_lst ?_
  | with_reducible refine w_asg ?_
  | with_reducible refine w_ret ?_
  | with_reducible refine w_ifS ?_
  | with_reducible refine w_next ?_
  | with_reducible refine w_unD ?_
  | with_reducible refine wt_test ?_
  | with_reducible refine wt_and ?_
  | ((with_reducible show Ws _ _ _ (tAsg _ (gSub (tVar _) (tC (.int 2)) rSetL)) _); refine w_setP2 rfl ?_)
  | ((with_reducible show Ws _ _ _ (tAsg _ (gSub (tVar _) (tC (.int 1)) rSetL)) _); refine w_setP1 rfl ?_)
  | ((with_reducible show ∀ _, R2D _ _ _ _ _ _); intro y)
  | ((with_reducible show ∀ _, R1D _ _ _ _); intro y)
  | ((with_reducible show ∀ _, RCD _ _ _ _ _); intro y)
  | with_reducible refine r_neg ?_
  | with_reducible refine r_addI ?_
  | with_reducible refine r_subI ?_
  | with_reducible refine r_ltXI ?_
  | with_reducible refine r_leI ?_
  | with_reducible refine r_gtI ?_
  | with_reducible refine r_geI ?_
  | ((with_reducible show R2D _ _ (rMulX _) (.int _) (.int _) _); refine r_mulXI (by first | exact Or.inl ⟨by omega, by omega⟩ | exact Or.inr ⟨by omega, by omega⟩) ?_)
  | ((with_reducible show R2D _ _ rMod (.int _) (.int _) _); refine r_modI (by omega) ?_)
  | ((with_reducible show R2D _ _ rDiv (.int _) (.int _) _); refine r_divI (by omega) ?_)
  | ((with_reducible show R2D _ _ rPow (.int 10) (.int _) _); refine r_powI ⟨by decide, by decide, by decide⟩ ?_)
  | ((with_reducible show R2D _ _ (rIx _) .pen (.int 2) _); refine r_ixP2 fun _ => ?_)
  | with_reducible refine c_lenL ?_
  | with_reducible refine c_abs ?_
  | with_reducible refine c_intI ?_
  | with_reducible refine c_intB ?_
  | with_reducible refine ex_bl ?_
  | with_reducible refine ex_int ?_
  | ((with_reducible show _ ∧ _); refine ⟨(show szOk _ = true from rfl), ?_⟩)
  | ((with_reducible show ite _ _ _); first | (refine ite_t (by first | rfl | assumption) ?_) | (refine ite_f (by first | rfl | assumption) ?_)))
local macro_rules | `(tactic| walk_at "e") => `(tactic| repeat walk_at "e1")
local macro_rules | `(tactic| walk_at "w") => `(tactic| repeat (first | with_reducible refine w_seq ?_ | walk_at "e1"))
theorem w__law_draw {P : Program} (c : Fc) (_ : Glb P c.K c.mg) : ∀ (m : Int) (n : Nat) (s : List Dt), 0 < m → m < 1073741824 → Ws c (gam N__law_draw [.pen, .int m]) ⟨n + 1, s⟩ (t__law_draw c.K c.mg c.T) (ndD m ⟨n, s⟩) := by
  intro m n s h1 h2
  unfold t__law_draw
  walk_at "w"
  refine ite_b (fun hr => ?_) fun hr => ?_
  · walk_at "w"
    exact ⟨⟨_, rfl, md_bd _ h1⟩, Nat.le_succ _, rfl⟩
  · walk_at "w"
    refine r_ixP1 fun at_ a0 a1 => ?_
    have a1 : at_ + ((n + 1 : Nat) : Int) ≤ 4194304 := a1
    walk_at "w"
    refine ⟨_, n, rfl, by omega, by omega, ?_⟩
    refine w_seq ?_
    walk_at "e"
    refine w_cut (fun Γ' n' => n' = (⟨n, s⟩ : Cs) ∧ ∃ raw : Int, Γ' = [Sl.da .pen, .da (.int m), .un, .da (.int at_), .da (.int raw), .un, .un]) ?_ ?_
    · walk_at "e"
      refine r_neNil (fun _ => ?_) fun hp => ?_
      · walk_at "e"
        exact ⟨rfl, _, rfl⟩
      · walk_at "e"
        refine r_modI (by rw [List.length_map]; omega) ?_
        intro y0
        refine r_ixI (md_bd _ ?_).1 ?_ fun raw => ?_
        · rw [List.length_map]; omega
        · have := (md_bd at_ (b := (c.ns.map Dt.int).length) (by rw [List.length_map]; omega)).2
          rw [List.length_map] at this ⊢
          exact this
        exact ⟨rfl, _, rfl⟩
    · rintro Γ' n' ⟨rfl, raw, rfl⟩
      refine w_cut (fun Γ' n2 => n ≤ n2.n ∧ n2.s = s ∧ ∃ s5 : Sl, Γ' = [Sl.da .pen, .da (.int m), .un, .da (.int at_), .da (.int raw), s5, .un]) ?_ ?_
      · walk_at "e"
        refine ite_b (fun hr => ?_) fun hr => ?_
        · walk_at "e"
          refine ite_b (fun hr => ?_) fun hr => ?_
          · walk_at "w"
            exact ⟨⟨_, rfl, md_bd _ h1⟩, Nat.le_refl _, rfl⟩
          · walk_at "w"
            exact ⟨Nat.le_refl _, rfl, _, rfl⟩
        · walk_at "w"
          exact ⟨Nat.le_refl _, rfl, _, rfl⟩
      · rintro Γ' n2 ⟨hn, hs, s5, rfl⟩
        have q := md_bd raw (b := 2147483549) (by omega)
        have b0 := a0
        walk_at "w"
        refine r_powI ⟨by decide, by decide, by omega⟩ ?_
        walk_at "w"
        generalize hq : (raw % 2147483549 + 7333 * at_ + 441) ^ Int.toNat 5 % 2147483629 = mx
        have q2 := md_bd ((raw % 2147483549 + 7333 * at_ + 441) ^ Int.toNat 5) (b := 2147483629) (by omega)
        rw [hq] at q2
        have b1 := mul_bd q2.1 (show mx ≤ 2147483629 by omega) (show 0 ≤ at_ + 30021 by omega) (show at_ + 30021 ≤ 4224325 by omega)
        have b60033 := mul_bd (show 0 ≤ 60033 * at_ by omega) (show 60033 * at_ ≤ 60033 * 4194304 by omega) a0 (show at_ ≤ 4194304 by omega)
        walk_at "w"
        refine r_powI ⟨by decide, by decide, by omega⟩ ?_
        walk_at "w"
        exact ⟨⟨_, rfl, md_bd _ h1⟩, hn, hs⟩
def top (i : Nat) : Stmt := PySem.Challenge.pw_pathbits_k05_parts_and_tools.main.body.getD i (.Pass ⟨0, 0, 0, 0⟩)
abbrev s__law_pen : Stmt := top 23
theorem sc__law_pen : FnScope N__law_pen ["_law_script"] (defScope s__law_pen) := ⟨rfl, rfl, rfl, by decide +kernel, rfl, by decide +kernel, by decide +kernel⟩
abbrev s__law_draw : Stmt := top 24
theorem sc__law_draw : FnScope N__law_draw ["_law_pen_here", "_law_many"] (defScope s__law_draw) := ⟨rfl, rfl, rfl, by decide +kernel, rfl, by decide +kernel, by decide +kernel⟩
abbrev s__law_pick : Stmt := top 25
theorem sc__law_pick : FnScope N__law_pick ["_law_pen_here", "_law_some"] (defScope s__law_pick) := ⟨rfl, rfl, rfl, by decide +kernel, rfl, by decide +kernel, by decide +kernel⟩
abbrev s__law_label : Stmt := top 27
theorem sc__law_label : FnScope N__law_label ["_law_pen_here"] (defScope s__law_label) := ⟨rfl, rfl, rfl, by decide +kernel, rfl, by decide +kernel, by decide +kernel⟩
abbrev s_is_simple : Stmt := top 13
theorem sc_is_simple : FnScope N_is_simple ["value"] (defScope s_is_simple) := ⟨rfl, rfl, rfl, by decide +kernel, rfl, by decide +kernel, by decide +kernel⟩
abbrev s_is_name : Stmt := top 14
theorem sc_is_name : FnScope N_is_name ["value"] (defScope s_is_name) := ⟨rfl, rfl, rfl, by decide +kernel, rfl, by decide +kernel, by decide +kernel⟩
abbrev s_Partu_initu : Stmt := inClass (top 16) 1
theorem sc_Partu_initu : FnScope N_Partu_initu ["self", "name"] (defScope s_Partu_initu) := ⟨rfl, rfl, rfl, by decide +kernel, rfl, by decide +kernel, by decide +kernel⟩
abbrev s_is_integer : Stmt := top 6
theorem sc_is_integer : FnScope N_is_integer ["value"] (defScope s_is_integer) := ⟨rfl, rfl, rfl, by decide +kernel, rfl, by decide +kernel, by decide +kernel⟩
abbrev s_is_between : Stmt := top 7
theorem sc_is_between : FnScope N_is_between ["value", "least", "most"] (defScope s_is_between) := ⟨rfl, rfl, rfl, by decide +kernel, rfl, by decide +kernel, by decide +kernel⟩
abbrev s_Toolu_initu : Stmt := inClass (top 17) 2
theorem sc_Toolu_initu : FnScopeS N_Toolu_initu ["self", "name", "width"] (defScope s_Toolu_initu) := ⟨rfl, rfl, rfl, by decide +kernel, rfl, by decide +kernel, by decide +kernel, fun x h => fr_by (by decide +kernel) h⟩
theorem et_Toolu_initu : EnvT (defScope s_Toolu_initu) (defArgs s_Toolu_initu) N_Toolu_initu "self" := ⟨by decide +kernel, by decide +kernel, ⟨_, rfl, rfl⟩, rfl, by decide +kernel⟩
abbrev s_Part_cells : Stmt := inClass (top 16) 2
theorem sc_Part_cells : FnScope N_Part_cells ["self"] (defScope s_Part_cells) := ⟨rfl, rfl, rfl, by decide +kernel, rfl, by decide +kernel, by decide +kernel⟩
abbrev s_Tool_cells : Stmt := inClass (top 17) 3
theorem sc_Tool_cells : FnScopeS N_Tool_cells ["self"] (defScope s_Tool_cells) := ⟨rfl, rfl, rfl, by decide +kernel, rfl, by decide +kernel, by decide +kernel, fun x h => fr_by (by decide +kernel) h⟩
theorem et_Tool_cells : EnvT (defScope s_Tool_cells) (defArgs s_Tool_cells) N_Tool_cells "self" := ⟨by decide +kernel, by decide +kernel, ⟨_, rfl, rfl⟩, rfl, by decide +kernel⟩
abbrev s_number_width : Stmt := top 19
theorem sc_number_width : FnScope N_number_width ["many"] (defScope s_number_width) := ⟨rfl, rfl, rfl, by decide +kernel, rfl, by decide +kernel, by decide +kernel⟩
abbrev s_Fork_lines : Stmt := inClass (top 20) 3
theorem sc_Fork_lines : FnScope N_Fork_lines ["self"] (defScope s_Fork_lines) := ⟨rfl, rfl, rfl, by decide +kernel, rfl, by decide +kernel, by decide +kernel⟩
abbrev s_Fork_cells : Stmt := inClass (top 20) 4
theorem sc_Fork_cells : FnScopeS N_Fork_cells ["self"] (defScope s_Fork_cells) := ⟨rfl, rfl, rfl, by decide +kernel, rfl, by decide +kernel, by decide +kernel, fun x h => fr_by (by decide +kernel) h⟩
theorem et_Fork_cells : EnvT (defScope s_Fork_cells) (defArgs s_Fork_cells) N_Fork_cells "self" := ⟨by decide +kernel, by decide +kernel, ⟨_, rfl, rfl⟩, rfl, by decide +kernel⟩
abbrev s_Partu_equ : Stmt := inClass (top 16) 3
theorem sc_Partu_equ : FnScope N_Partu_equ ["self", "other"] (defScope s_Partu_equ) := ⟨rfl, rfl, rfl, by decide +kernel, rfl, by decide +kernel, by decide +kernel⟩
abbrev s_Toolu_equ : Stmt := inClass (top 17) 4
theorem sc_Toolu_equ : FnScope N_Toolu_equ ["self", "other"] (defScope s_Toolu_equ) := ⟨rfl, rfl, rfl, by decide +kernel, rfl, by decide +kernel, by decide +kernel⟩
abbrev s_Forku_equ : Stmt := inClass (top 20) 6
theorem sc_Forku_equ : FnScope N_Forku_equ ["self", "other"] (defScope s_Forku_equ) := ⟨rfl, rfl, rfl, by decide +kernel, rfl, by decide +kernel, by decide +kernel⟩
abbrev s_is_line : Stmt := top 18
theorem sc_is_line : FnScope N_is_line ["value"] (defScope s_is_line) := ⟨rfl, rfl, rfl, by decide +kernel, rfl, by decide +kernel, by decide +kernel⟩
abbrev s_Forku_initu : Stmt := inClass (top 20) 2
theorem sc_Forku_initu : FnScopeS N_Forku_initu ["self", "name", "lines"] (defScope s_Forku_initu) := ⟨rfl, rfl, rfl, by decide +kernel, rfl, by decide +kernel, by decide +kernel, fun x h => fr_by (by decide +kernel) h⟩
theorem et_Forku_initu : EnvT (defScope s_Forku_initu) (defArgs s_Forku_initu) N_Forku_initu "self" := ⟨by decide +kernel, by decide +kernel, ⟨_, rfl, rfl⟩, rfl, by decide +kernel⟩
abbrev s__law_odd_label : Stmt := top 28
theorem sc__law_odd_label : FnScope N__law_odd_label ["_law_pen_here"] (defScope s__law_odd_label) := ⟨rfl, rfl, rfl, by decide +kernel, rfl, by decide +kernel, by decide +kernel⟩
abbrev s__law_heard : Stmt := top 26
theorem sc__law_heard : FnScope N__law_heard ["_law_ask"] (defScope s__law_heard) := ⟨rfl, rfl, rfl, by decide +kernel, rfl, by decide +kernel, by decide +kernel⟩
abbrev s__law_refused_right : Stmt := top 29
theorem sc__law_refused_right : FnScope N__law_refused_right ["_law_pen_here"] (defScope s__law_refused_right) := ⟨rfl, rfl, rfl, by decide +kernel, rfl, by decide +kernel, by decide +kernel⟩
abbrev s_law : Stmt := top 30
theorem sc_law : FnScope N_law ["_law_script"] (defScope s_law) := ⟨rfl, rfl, rfl, by decide +kernel, rfl, by decide +kernel, by decide +kernel⟩
def tabs (K : PySem.W.Frag) : List (Addr × Str) := [((He.cT K ("_law_refused_right", none)).2, ("_law_refused_right" : Str) ++ ".<locals>." ++ "<lambda>")]
theorem tabs_un {K : PySem.W.Frag} {a : Addr × Str} (h : a ∈ tabs K) (hi : ((tabs K).map (·.1)).Nodup) : ∀ p ∈ tabs K, p.1 = a.1 → p.2 = a.2 := fun p hp e => by
  rw [nodup_fst hi hp h e]
theorem tab_ok {P : Program} {K : PySem.W.Frag} {mg : Str → Option Value} (g : Glb P K mg) : TabOk tabL K mg where
  sys := g.sysM
  isa := (al_cons (fun D hD => by have e := hD.symm.trans g.m_InvalidName; cases e; exact ⟨g.ec_InvalidName, g.kit_InvalidName_InvalidName⟩) (al_cons (fun D hD => by have e := hD.symm.trans g.m_InvalidName; cases e; exact ⟨g.ec_InvalidName, g.kit_InvalidName_InvalidPart⟩) (al_cons (fun D hD => by have e := hD.symm.trans g.m_InvalidPart; cases e; exact ⟨g.ec_InvalidPart, g.kit_InvalidPart_InvalidName⟩) (al_cons (fun D hD => by have e := hD.symm.trans g.m_InvalidPart; cases e; exact ⟨g.ec_InvalidPart, g.kit_InvalidPart_InvalidPart⟩) al_nil))))
  fld := (al_cons (fun D hD => by have e := hD.symm.trans g.m_InvalidName; cases e; exact ⟨g.ec_InvalidName, g.no_InvalidName_value⟩) (al_cons (fun D hD => by have e := hD.symm.trans g.m_InvalidPart; cases e; exact ⟨g.ec_InvalidPart, g.no_InvalidPart_word⟩) al_nil))
  exm := (al_cons (fun D hD => by have e := hD.symm.trans g.m_InvalidName; cases e; exact g.exm_InvalidName_PathError) (al_cons (fun D hD => by have e := hD.symm.trans g.m_InvalidPart; cases e; exact g.exm_InvalidPart_PathError) al_nil))
  rai := (al_cons g.m_InvalidName (al_cons g.m_InvalidPart (al_cons g.m_Part (al_cons g.m_Tool (al_cons g.m_Fork al_nil)))))
  kit := (al_cons ⟨⟨g.m_Part, g.ty_Part⟩, g.kit_o_Part_Part⟩ (al_cons ⟨⟨g.m_Tool, g.ty_Tool⟩, g.kit_o_Tool_Part⟩ (al_cons ⟨⟨g.m_Fork, g.ty_Fork⟩, g.kit_o_Fork_Part⟩ (al_cons ⟨trivial, g.kit_t_none_Part⟩ (al_cons ⟨trivial, g.kit_t_bool_Part⟩ (al_cons ⟨trivial, g.kit_t_int_Part⟩ (al_cons ⟨trivial, g.kit_t_str_Part⟩ (al_cons ⟨trivial, g.kit_t_list_Part⟩ (al_cons ⟨trivial, g.kit_t_tuple_Part⟩ (al_cons ⟨trivial, g.kit_t_dict_Part⟩ (al_cons ⟨⟨g.m_Part, g.ty_Part⟩, g.kit_o_Part_Tool⟩ (al_cons ⟨⟨g.m_Tool, g.ty_Tool⟩, g.kit_o_Tool_Tool⟩ (al_cons ⟨⟨g.m_Fork, g.ty_Fork⟩, g.kit_o_Fork_Tool⟩ (al_cons ⟨trivial, g.kit_t_none_Tool⟩ (al_cons ⟨trivial, g.kit_t_bool_Tool⟩ (al_cons ⟨trivial, g.kit_t_int_Tool⟩ (al_cons ⟨trivial, g.kit_t_str_Tool⟩ (al_cons ⟨trivial, g.kit_t_list_Tool⟩ (al_cons ⟨trivial, g.kit_t_tuple_Tool⟩ (al_cons ⟨trivial, g.kit_t_dict_Tool⟩ (al_cons ⟨⟨g.m_Part, g.ty_Part⟩, g.kit_o_Part_Fork⟩ (al_cons ⟨⟨g.m_Tool, g.ty_Tool⟩, g.kit_o_Tool_Fork⟩ (al_cons ⟨⟨g.m_Fork, g.ty_Fork⟩, g.kit_o_Fork_Fork⟩ (al_cons ⟨trivial, g.kit_t_none_Fork⟩ (al_cons ⟨trivial, g.kit_t_bool_Fork⟩ (al_cons ⟨trivial, g.kit_t_int_Fork⟩ (al_cons ⟨trivial, g.kit_t_str_Fork⟩ (al_cons ⟨trivial, g.kit_t_list_Fork⟩ (al_cons ⟨trivial, g.kit_t_tuple_Fork⟩ (al_cons ⟨trivial, g.kit_t_dict_Fork⟩ al_nil))))))))))))))))))))))))))))))
  nf0 := (al_cons (fun _ => ⟨⟨g.m_Part, g.ty_Part⟩, g.nf0_Part_Part⟩) (al_cons (fun z => by cases z) (al_cons (fun z => by cases z) (al_cons (fun _ => ⟨trivial, g.nft_Part_none⟩) (al_cons (fun _ => ⟨trivial, g.nft_Part_bool⟩) (al_cons (fun _ => ⟨trivial, g.nft_Part_int⟩) (al_cons (fun _ => ⟨trivial, g.nft_Part_str⟩) (al_cons (fun _ => ⟨trivial, g.nft_Part_list⟩) (al_cons (fun _ => ⟨trivial, g.nft_Part_tuple⟩) (al_cons (fun _ => ⟨trivial, g.nft_Part_dict⟩) (al_cons (fun _ => ⟨⟨g.m_Part, g.ty_Part⟩, g.nf0_Tool_Part⟩) (al_cons (fun _ => ⟨⟨g.m_Tool, g.ty_Tool⟩, g.nf0_Tool_Tool⟩) (al_cons (fun _ => ⟨⟨g.m_Fork, g.ty_Fork⟩, g.nf0_Tool_Fork⟩) (al_cons (fun _ => ⟨trivial, g.nft_Tool_none⟩) (al_cons (fun _ => ⟨trivial, g.nft_Tool_bool⟩) (al_cons (fun _ => ⟨trivial, g.nft_Tool_int⟩) (al_cons (fun _ => ⟨trivial, g.nft_Tool_str⟩) (al_cons (fun _ => ⟨trivial, g.nft_Tool_list⟩) (al_cons (fun _ => ⟨trivial, g.nft_Tool_tuple⟩) (al_cons (fun _ => ⟨trivial, g.nft_Tool_dict⟩) (al_cons (fun _ => ⟨⟨g.m_Part, g.ty_Part⟩, g.nf0_Fork_Part⟩) (al_cons (fun _ => ⟨⟨g.m_Tool, g.ty_Tool⟩, g.nf0_Fork_Tool⟩) (al_cons (fun _ => ⟨⟨g.m_Fork, g.ty_Fork⟩, g.nf0_Fork_Fork⟩) (al_cons (fun _ => ⟨trivial, g.nft_Fork_none⟩) (al_cons (fun _ => ⟨trivial, g.nft_Fork_bool⟩) (al_cons (fun _ => ⟨trivial, g.nft_Fork_int⟩) (al_cons (fun _ => ⟨trivial, g.nft_Fork_str⟩) (al_cons (fun _ => ⟨trivial, g.nft_Fork_list⟩) (al_cons (fun _ => ⟨trivial, g.nft_Fork_tuple⟩) (al_cons (fun _ => ⟨trivial, g.nft_Fork_dict⟩) al_nil))))))))))))))))))))))))))))))
  nf1 := (al_cons (fun z => by cases z) (al_cons (fun _ cn e => by cases e; exact g.nf1_Part_Tool) (al_cons (fun _ cn e => by cases e; exact g.nf1_Part_Fork) (al_cons (fun z => by cases z) (al_cons (fun z => by cases z) (al_cons (fun z => by cases z) (al_cons (fun z => by cases z) (al_cons (fun z => by cases z) (al_cons (fun z => by cases z) (al_cons (fun z => by cases z) (al_cons (fun z => by cases z) (al_cons (fun z => by cases z) (al_cons (fun z => by cases z) (al_cons (fun z => by cases z) (al_cons (fun z => by cases z) (al_cons (fun z => by cases z) (al_cons (fun z => by cases z) (al_cons (fun z => by cases z) (al_cons (fun z => by cases z) (al_cons (fun z => by cases z) (al_cons (fun z => by cases z) (al_cons (fun z => by cases z) (al_cons (fun z => by cases z) (al_cons (fun z => by cases z) (al_cons (fun z => by cases z) (al_cons (fun z => by cases z) (al_cons (fun z => by cases z) (al_cons (fun z => by cases z) (al_cons (fun z => by cases z) (al_cons (fun z => by cases z) al_nil))))))))))))))))))))))))))))))
  sf := (al_cons ⟨g.m_Part, g.cls_Part, g.noat_Part_name⟩ (al_cons ⟨g.m_Tool, g.cls_Tool, g.noat_Tool_width⟩ (al_cons ⟨g.m_Tool, g.cls_Tool, g.noat_Tool_name⟩ (al_cons ⟨g.m_Fork, g.cls_Fork, g.noat_Fork_name⟩ (al_cons ⟨g.m_Fork, g.cls_Fork, g.noat_Fork_own_lines⟩ al_nil)))))
section
variable {P : Program} {w : World} {K : PySem.W.Frag} {mg : Str → Option Value} {base : Heap} {f : Addr} {fd : FuncData}
theorem d__law_pen {cdv : Value} {A : Around} {outer : List Env} {s : Shared} {H : Hp} {E : XK} (g : Glb P K mg) (hr : RoomG false 0 (A.deeper (envOfC "_law_pen" (defScope s__law_pen) s.heap.objs.size f cdv)))  :
    PSs (cxOf CX0 P w K mg base N__law_pen "_law_pen" (defScope s__law_pen) f cdv A outer s H E).nox (defBody s__law_pen) (t_pen K) :=
  (pss_one (ps_ret (pe_lst (pa_cons (pe_callTy b_list rfl g.n_list (by decide +kernel) (pa_cons (pe_slice sl_any (pv 0) po_none (po_some pe_int)) pa_nil)) (pa_cons pe_int (pa_cons pe_int pa_nil))))))
theorem ok__law_pen (g : Glb P K mg) (F : Fd K "_law_pen" "_law_pen" s__law_pen f fd)  : FnG false P w K mg base CX0 1 f fd ["_law_script"] (spPen K (tabs K)) :=
  okG0 F sc__law_pen (fun vs H Q E h => by obtain ⟨_, _, rfl, _⟩ := h; rfl) fun cdv A outer s H vs Q E hr h => ⟨t_pen K, d__law_pen g hr , pen_made h⟩
theorem cal__law_pen (g : Glb P K mg) (hm : mg "_law_pen" = some (.ref f)) (F : Fd K "_law_pen" "_law_pen" s__law_pen f fd)  : Cal false P w K mg base CX0 1 s__law_pen "_law_pen" ["_law_script"] (spPen K (tabs K)) :=
  ⟨f, fd, hm, F, F.bindsN fun _ _ _ _ _ _ us hl => match us, hl with | [_], _ => rfl, ok__law_pen g F  ⟩
theorem d__law_draw {cdv : Value} {A : Around} {outer : List Env} {s : Shared} {H : Hp} {E : XK} (g : Glb P K mg) (hr : RoomG false 0 (A.deeper (envOfC "_law_draw" (defScope s__law_draw) s.heap.objs.size f cdv)))  :
    PSs (cxOf CX0 P w K mg base N__law_draw "_law_draw" (defScope s__law_draw) f cdv A outer s H E).nox (defBody s__law_draw) (t__law_draw K mg (tabs K)) :=
  (pss_cons (ps_if (pt_cmpR o_gt (pe_ix ix_seq (pv 0) pe_int (fun _ _ => rfl)) pe_int (nomark _)) (pss_cons (ps_set (i := 2) sc__law_draw.nd rfl (Or.inl rfl) (pe_op o_mod (pe_callTy b_int rfl g.n_int (by decide +kernel) (pa_cons (pe_ix ix_seq (pv 0) pe_int (fun _ _ => rfl)) pa_nil)) (pv 1)))
    (pss_cons (ps_asg (pe_op o_div (pe_callTy b_int rfl g.n_int (by decide +kernel) (pa_cons (pe_ix ix_seq (pv 0) pe_int (fun _ _ => rfl)) pa_nil)) (pv 1)) (pg_sub (pv 0) pe_int set_list))
    (pss_one (ps_ret (pv 2))))) pss_nil)
    (pss_cons (ps_set (i := 3) sc__law_draw.nd rfl (Or.inl rfl) (pe_ix ix_seq (pv 0) pe_int (fun _ _ => rfl)))
    (pss_cons (ps_asg (pe_op o_add (pv 3) pe_int) (pg_sub (pv 0) pe_int set_list))
    (pss_cons (ps_set (i := 4) sc__law_draw.nd rfl (Or.inl rfl) (pe_op o_add (pe_op o_mulX pe_int (pv 3)) pe_int))
    (pss_cons (ps_if (pt_cmpR (o_ne hr.rm.units) (pe_ix ix_seq (pv 0) pe_int (fun _ _ => rfl)) (pe_lst pa_nil) (nomark _)) (pss_one (ps_set (i := 4) sc__law_draw.nd rfl (Or.inl rfl) (pe_ix ix_seq (pe_ix ix_seq (pv 0) pe_int (fun _ _ => rfl)) (pe_op o_mod (pe_callTy b_int rfl g.n_int (by decide +kernel) (pa_cons (pv 3) pa_nil)) (pe_callB b_len rfl g.n_len (by decide +kernel) (pa_cons (pe_ix ix_seq (pv 0) pe_int (fun _ _ => rfl)) pa_nil))) (fun _ _ => rfl)))) pss_nil)
    (pss_cons (ps_if (PW.pt (pw_and (pt_cmpR (o_ltX hr.rm.units0) (pv 3) (pe_callB b_len rfl g.n_len (by decide +kernel) (pa_cons (pe_ix ix_seq (pv 0) pe_int (fun _ _ => rfl)) pa_nil)) (nomark _)) (pw_and1 (pt_cmpR o_ge (pe_callB b_abs rfl g.n_abs (by decide +kernel) (pa_cons (pv 4) pa_nil)) (pe_op o_pow pe_int pe_int) (nomark _))))) (pss_cons (ps_set (i := 5) sc__law_draw.nd rfl (Or.inl rfl) (pe_op o_add (pe_op o_mulX pe_int (pe_callB b_abs rfl g.n_abs (by decide +kernel) (pa_cons (pv 4) pa_nil))) (pe_callTy b_int rfl g.n_int (by decide +kernel) (pa_cons (pe_cmpR (o_ltX hr.rm.units0) (pv 4) pe_int (nomark _)) pa_nil))))
    (pss_cons (ps_asg (pe_op o_div (pe_callTy b_int rfl g.n_int (by decide +kernel) (pa_cons (pv 5) pa_nil)) (pv 1)) (pg_sub (pv 0) pe_int set_list))
    (pss_one (ps_ret (pe_op o_mod (pe_callTy b_int rfl g.n_int (by decide +kernel) (pa_cons (pv 5) pa_nil)) (pv 1)))))) pss_nil)
    (pss_cons (ps_set (i := 6) sc__law_draw.nd rfl (Or.inl rfl) (pe_op o_mod (pe_callTy b_int rfl g.n_int (by decide +kernel) (pa_cons (pe_op o_pow (pe_op o_add (pe_op o_add (pe_op o_mod (pe_callTy b_int rfl g.n_int (by decide +kernel) (pa_cons (pv 4) pa_nil)) pe_int) (pe_op o_mulX pe_int (pv 3))) pe_int) pe_int) pa_nil)) pe_int))
    (pss_cons (ps_set (i := 6) sc__law_draw.nd rfl (Or.inl rfl) (pe_op o_mod (pe_callTy b_int rfl g.n_int (by decide +kernel) (pa_cons (pe_op o_pow (pe_op o_add (pe_op o_add (pe_op o_mulX (pv 6) (pe_op o_add (pv 3) pe_int)) (pe_op o_mulX (pe_op o_mulX pe_int (pv 3)) (pv 3))) pe_int) pe_int) pa_nil)) pe_int))
    (pss_one (ps_ret (pe_op o_mod (pe_callTy b_int rfl g.n_int (by decide +kernel) (pa_cons (pe_op o_div (pv 6) pe_int) pa_nil)) (pv 1))))))))))))
theorem ok__law_draw (g : Glb P K mg) (F : Fd K "_law_draw" "_law_draw" s__law_draw f fd)  : FnG false P w K mg base CX0 1 f fd ["_law_pen_here", "_law_many"] (spE K mg (tabs K) drawF) :=
  okDraw F sc__law_draw rfl fun cdv A outer s H E hr => ⟨t__law_draw K mg (tabs K), d__law_draw g hr , fun c hK hm hT => by subst hK hm; rw [← hT]; exact w__law_draw c g⟩
theorem cal__law_draw (g : Glb P K mg) (hm : mg "_law_draw" = some (.ref f)) (F : Fd K "_law_draw" "_law_draw" s__law_draw f fd)  : Cal false P w K mg base CX0 1 s__law_draw "_law_draw" ["_law_pen_here", "_law_many"] (spE K mg (tabs K) drawF) :=
  ⟨f, fd, hm, F, F.bindsN fun _ _ _ _ _ _ us hl => match us, hl with | [_, _], _ => rfl, ok__law_draw g F  ⟩
theorem td__law_pick {T : List (Addr × Str)} {E : XK} : denS tm__law_pick (dnF K mg T E0 F__law_pick) = t__law_pick K mg T := rfl
theorem d__law_pick {cdv : Value} {A : Around} {outer : List Env} {s : Shared} {H : Hp} {E : XK} (g : Glb P K mg) (hr : RoomG false 1 (A.deeper (envOfC "_law_pick" (defScope s__law_pick) s.heap.objs.size f cdv))) (c__law_draw : Cal false P w K mg base CX0 1 s__law_draw "_law_draw" ["_law_pen_here", "_law_many"] (spE K mg (tabs K) drawF)) :
    PSs (cxOf CX0 P w K mg base N__law_pick "_law_pick" (defScope s__law_pick) f cdv A outer s H E).nox (defBody s__law_pick) (t__law_pick K mg (tabs K)) :=
  (pss_one (ps_ret (pe_ix (ix_any (u1 hr.rm.units)) (pv 1) (pe_cal c__law_draw hr pass0 (pa_cons (pv 0) (pa_cons (pe_callB b_len rfl g.n_len (by decide +kernel) (pa_cons (pv 1) pa_nil)) pa_nil))) (fun _ _ => rfl))))
theorem ok__law_pick (g : Glb P K mg) (F : Fd K "_law_pick" "_law_pick" s__law_pick f fd) (c__law_draw : Cal false P w K mg base CX0 1 s__law_draw "_law_draw" ["_law_pen_here", "_law_many"] (spE K mg (tabs K) drawF)) : FnG false P w K mg base CX0 2 f fd ["_law_pen_here", "_law_some"] (spE K mg (tabs K) e__law_pick) :=
  okF0 F sc__law_pick rfl rfl (tab_ok g) fun cdv A outer s H E hr => by rw [td__law_pick (E := E0)]; exact d__law_pick g hr c__law_draw
theorem cal__law_pick (g : Glb P K mg) (hm : mg "_law_pick" = some (.ref f)) (F : Fd K "_law_pick" "_law_pick" s__law_pick f fd) (c__law_draw : Cal false P w K mg base CX0 1 s__law_draw "_law_draw" ["_law_pen_here", "_law_many"] (spE K mg (tabs K) drawF)) : Cal false P w K mg base CX0 2 s__law_pick "_law_pick" ["_law_pen_here", "_law_some"] (spE K mg (tabs K) e__law_pick) :=
  ⟨f, fd, hm, F, F.bindsN fun _ _ _ _ _ _ us hl => match us, hl with | [_, _], _ => rfl, ok__law_pick g F  c__law_draw⟩
theorem td__law_label {T : List (Addr × Str)} {E : XK} : denS tm__law_label (dnF K mg T E0 F__law_label) = t__law_label K mg T := rfl
theorem d__law_label {cdv : Value} {A : Around} {outer : List Env} {s : Shared} {H : Hp} {E : XK} (g : Glb P K mg) (hr : RoomG false 2 (A.deeper (envOfC "_law_label" (defScope s__law_label) s.heap.objs.size f cdv))) (c__law_pick : Cal false P w K mg base CX0 2 s__law_pick "_law_pick" ["_law_pen_here", "_law_some"] (spE K mg (tabs K) e__law_pick)) :
    PSs (cxOf CX0 P w K mg base N__law_label "_law_label" (defScope s__law_label) f cdv A outer s H E).nox (defBody s__law_label) (t__law_label K mg (tabs K)) :=
  (pss_one (ps_ret (pe_cal c__law_pick hr pass0 (pa_cons (pv 0) (pa_cons (pe_lst (pa_cons pe_str (pa_cons pe_str (pa_cons pe_str (pa_cons pe_str (pa_cons pe_str (pa_cons pe_str (pa_cons pe_str (pa_cons pe_str pa_nil))))))))) pa_nil)))))
theorem ok__law_label (g : Glb P K mg) (F : Fd K "_law_label" "_law_label" s__law_label f fd) (c__law_pick : Cal false P w K mg base CX0 2 s__law_pick "_law_pick" ["_law_pen_here", "_law_some"] (spE K mg (tabs K) e__law_pick)) : FnG false P w K mg base CX0 3 f fd ["_law_pen_here"] (spE K mg (tabs K) e__law_label) :=
  okF0 F sc__law_label rfl rfl (tab_ok g) fun cdv A outer s H E hr => by rw [td__law_label (E := E0)]; exact d__law_label g hr c__law_pick
theorem cal__law_label (g : Glb P K mg) (hm : mg "_law_label" = some (.ref f)) (F : Fd K "_law_label" "_law_label" s__law_label f fd) (c__law_pick : Cal false P w K mg base CX0 2 s__law_pick "_law_pick" ["_law_pen_here", "_law_some"] (spE K mg (tabs K) e__law_pick)) : Cal false P w K mg base CX0 3 s__law_label "_law_label" ["_law_pen_here"] (spE K mg (tabs K) e__law_label) :=
  ⟨f, fd, hm, F, F.bindsN fun _ _ _ _ _ _ us hl => match us, hl with | [_], _ => rfl, ok__law_label g F  c__law_pick⟩
theorem td_is_simple {T : List (Addr × Str)} {E : XK} : denS tm_is_simple (dnF K mg T E0 F_is_simple) = t_is_simple K mg T := rfl
theorem d_is_simple {cdv : Value} {A : Around} {outer : List Env} {s : Shared} {H : Hp} {E : XK} (g : Glb P K mg) (hr : RoomG false 0 (A.deeper (envOfC "is_simple" (defScope s_is_simple) s.heap.objs.size f cdv)))  :
    PSs (cxOf CX0 P w K mg base N_is_simple "is_simple" (defScope s_is_simple) f cdv A outer s H E).nox (defBody s_is_simple) (t_is_simple K mg (tabs K)) :=
  (pss_cons (ps_if (PW.pt (pw_or (pt_not (pt_tr (pe_callB call_isi rfl g.n_isinstance (by decide +kernel) (pa_cons (pv 0) (pa_cons (pe_bltn rfl g.n_str (by decide +kernel) rfl) pa_nil))))) (pw_or1 (pt_not (pt_chain o_le o_le pe_int (pe_callB b_len rfl g.n_len (by decide +kernel) (pa_cons (pv 0) pa_nil)) (C8.pe_gc rfl g.c_MOST_LETTERS)))))) (pss_one (ps_ret pe_bl)) pss_nil)
    (pss_one (ps_ret (pe_callB (b_all rfl) rfl g.n_all (by decide +kernel) (pa_cons (pe_lc (own := [("sign", 1)]) (g := (gName 1)) (tt := tYes) (te := (tOp (rInY K false) (tVar 1) (tC (.str ("abcdefghijklmnopqrstuvwxyz" : Str))))) rfl sc_is_simple.nd (pi_sq (pv 0)) (blkOk_by (own := [("sign", 1)]) (N := N_is_simple) (sc := defScope s_is_simple) (by decide +kernel)) (fun _ _ _ _ _ => (pg_name (i := 1) sc_is_simple.nd rfl (Or.inl rfl))) (fun _ _ _ _ _ => pts_nil) (fun _ _ _ _ _ => (pe_cmpR (o_inY (u1 hr.rm.units)) (pv 1) (C8.pe_gc rfl g.c_LETTERS) (by rfl)))) pa_nil)))))
theorem ok_is_simple (g : Glb P K mg) (F : Fd K "is_simple" "is_simple" s_is_simple f fd)  : FnG false P w K mg base CX0 1 f fd ["value"] (spE K mg (tabs K) e_is_simple) :=
  okF0 F sc_is_simple rfl rfl (tab_ok g) fun cdv A outer s H E hr => by rw [td_is_simple (E := E0)]; exact d_is_simple g hr 
theorem cal_is_simple (g : Glb P K mg) (hm : mg "is_simple" = some (.ref f)) (F : Fd K "is_simple" "is_simple" s_is_simple f fd)  : Cal false P w K mg base CX0 1 s_is_simple "is_simple" ["value"] (spE K mg (tabs K) e_is_simple) :=
  ⟨f, fd, hm, F, F.bindsN fun _ _ _ _ _ _ us hl => match us, hl with | [_], _ => rfl, ok_is_simple g F  ⟩
theorem td_is_name {T : List (Addr × Str)} {E : XK} : denS tm_is_name (dnF K mg T E0 F_is_name) = t_is_name K mg T := rfl
theorem d_is_name {cdv : Value} {A : Around} {outer : List Env} {s : Shared} {H : Hp} {E : XK} (g : Glb P K mg) (hr : RoomG false 1 (A.deeper (envOfC "is_name" (defScope s_is_name) s.heap.objs.size f cdv))) (c_is_simple : Cal false P w K mg base CX0 1 s_is_simple "is_simple" ["value"] (spE K mg (tabs K) e_is_simple)) :
    PSs (cxOf CX0 P w K mg base N_is_name "is_name" (defScope s_is_name) f cdv A outer s H E).nox (defBody s_is_name) (t_is_name K mg (tabs K)) :=
  (pss_cons (ps_if (pt_not (pt_tr (pe_callB call_isi rfl g.n_isinstance (by decide +kernel) (pa_cons (pv 0) (pa_cons (pe_bltn rfl g.n_str (by decide +kernel) rfl) pa_nil))))) (pss_one (ps_ret pe_bl)) pss_nil)
    (pss_cons (ps_set (i := 1) sc_is_name.nd rfl (Or.inl rfl) (pe_split (pv 0) (C8.pe_gc rfl g.c_POINT)))
    (pss_one (ps_ret (pe_andT (pe_cmpR o_le (pe_callB b_len rfl g.n_len (by decide +kernel) (pa_cons (pv 1) pa_nil)) (C8.pe_gc rfl g.c_MOST_WORDS) (nomark _)) (pe_one (pe_callB (b_all rfl) rfl g.n_all (by decide +kernel) (pa_cons (pe_lc (own := [("word", 2)]) (g := (gName 2)) (tt := tYes) (te := (tCB (fun vs H Q => spE K mg (tabs K) e_is_simple vs H Q E0) (tCons (tVar 2) tNil))) rfl sc_is_name.nd (pi_sq (pv 1)) (blkOk_by (own := [("word", 2)]) (N := N_is_name) (sc := defScope s_is_name) (by decide +kernel)) (fun _ _ _ _ _ => (pg_name (i := 2) sc_is_name.nd rfl (Or.inl rfl))) (fun _ _ _ _ _ => pts_nil) (fun _ _ _ _ _ => (pe_cal c_is_simple hr pass0 (pa_cons (pv 2) pa_nil)))) pa_nil))))))))
theorem ok_is_name (g : Glb P K mg) (F : Fd K "is_name" "is_name" s_is_name f fd) (c_is_simple : Cal false P w K mg base CX0 1 s_is_simple "is_simple" ["value"] (spE K mg (tabs K) e_is_simple)) : FnG false P w K mg base CX0 2 f fd ["value"] (spE K mg (tabs K) e_is_name) :=
  okF0 F sc_is_name rfl rfl (tab_ok g) fun cdv A outer s H E hr => by rw [td_is_name (E := E0)]; exact d_is_name g hr c_is_simple
theorem cal_is_name (g : Glb P K mg) (hm : mg "is_name" = some (.ref f)) (F : Fd K "is_name" "is_name" s_is_name f fd) (c_is_simple : Cal false P w K mg base CX0 1 s_is_simple "is_simple" ["value"] (spE K mg (tabs K) e_is_simple)) : Cal false P w K mg base CX0 2 s_is_name "is_name" ["value"] (spE K mg (tabs K) e_is_name) :=
  ⟨f, fd, hm, F, F.bindsN fun _ _ _ _ _ _ us hl => match us, hl with | [_], _ => rfl, ok_is_name g F  c_is_simple⟩
theorem td_Partu_initu {T : List (Addr × Str)} {E : XK} : denS tm_Partu_initu (dnF K mg T E F_Partu_initu) = t_Partu_initu K mg T E := rfl
theorem d_Partu_initu {cdv : Value} {A : Around} {outer : List Env} {s : Shared} {H : Hp} {E : XK} (g : Glb P K mg) (hr : RoomG false 2 (A.deeper (envOfC "Part.__init__" (defScope s_Partu_initu) s.heap.objs.size f cdv))) (c_is_name : Cal false P w K mg base CX0 2 s_is_name "is_name" ["value"] (spE K mg (tabs K) e_is_name)) :
    PSs (cxOf (L2.CX P w) P w K mg base N_Partu_initu "Part.__init__" (defScope s_Partu_initu) f cdv A outer s H E) (defBody s_Partu_initu) (t_Partu_initu K mg (tabs K) E) :=
  (pss_cons (ps_if (pt_not (pt_tr (pe_cal c_is_name hr pass0 (pa_cons (pv 1) pa_nil)))) (pss_one (ps_raiseS rfl g.sup_InvalidName g.m_InvalidName hr.rm (takes_of rfl rfl rfl rfl) (pa_cons (pv 1) pa_nil))) pss_nil)
    (pss_one (ps_fld (pv 0) (pv 1) rfl)))
theorem ok_Partu_initu (g : Glb P K mg) (F : Fd K "__init__" "Part.__init__" s_Partu_initu f fd) (c_is_name : Cal false P w K mg base CX0 2 s_is_name "is_name" ["value"] (spE K mg (tabs K) e_is_name)) : FnG false P w K mg base (L2.CX P w) 3 f fd ["self", "name"] (spE K mg (tabs K) e_Partu_initu) :=
  okFX F sc_Partu_initu rfl rfl (tab_ok g) fun cdv A outer s H E hr => by rw [td_Partu_initu]; exact d_Partu_initu g hr c_is_name
theorem bd_Partu_initu (F : Fd K "__init__" "Part.__init__" s_Partu_initu f fd) : Binds K fd ["self", "name"] [] := F.bindsN fun _ _ _ _ _ _ us hl => match us, hl with | [_, _], _ => rfl
theorem kb_kq_Partu_initu_0_name (F : Fd K "__init__" "Part.__init__" s_Partu_initu f fd) : KBn K fd ["self", "name"] 1 ["name"] (gPm [0]) (gPm [0]) := kbn_D F fun _ _ _ _ _ _ us ws h1 h2 => match us, ws, h1, h2 with | [_], [_], _, _ => rfl
theorem td_is_integer {T : List (Addr × Str)} {E : XK} : denS tm_is_integer (dnF K mg T E0 F_is_integer) = t_is_integer K mg T := rfl
theorem d_is_integer {cdv : Value} {A : Around} {outer : List Env} {s : Shared} {H : Hp} {E : XK} (g : Glb P K mg) (hr : RoomG false 0 (A.deeper (envOfC "is_integer" (defScope s_is_integer) s.heap.objs.size f cdv)))  :
    PSs (cxOf CX0 P w K mg base N_is_integer "is_integer" (defScope s_is_integer) f cdv A outer s H E).nox (defBody s_is_integer) (t_is_integer K mg (tabs K)) :=
  (pss_one (ps_ret (pe_andT (pe_callB call_isi rfl g.n_isinstance (by decide +kernel) (pa_cons (pv 0) (pa_cons (pe_bltn rfl g.n_int (by decide +kernel) rfl) pa_nil))) (pe_one (pe_notT (pe_callB call_isi rfl g.n_isinstance (by decide +kernel) (pa_cons (pv 0) (pa_cons (pe_bltn rfl g.n_bool (by decide +kernel) rfl) pa_nil))))))))
theorem ok_is_integer (g : Glb P K mg) (F : Fd K "is_integer" "is_integer" s_is_integer f fd)  : FnG false P w K mg base CX0 1 f fd ["value"] (spE K mg (tabs K) e_is_integer) :=
  okF0 F sc_is_integer rfl rfl (tab_ok g) fun cdv A outer s H E hr => by rw [td_is_integer (E := E0)]; exact d_is_integer g hr 
theorem cal_is_integer (g : Glb P K mg) (hm : mg "is_integer" = some (.ref f)) (F : Fd K "is_integer" "is_integer" s_is_integer f fd)  : Cal false P w K mg base CX0 1 s_is_integer "is_integer" ["value"] (spE K mg (tabs K) e_is_integer) :=
  ⟨f, fd, hm, F, F.bindsN fun _ _ _ _ _ _ us hl => match us, hl with | [_], _ => rfl, ok_is_integer g F  ⟩
theorem td_is_between {T : List (Addr × Str)} {E : XK} : denS tm_is_between (dnF K mg T E0 F_is_between) = t_is_between K mg T := rfl
theorem d_is_between {cdv : Value} {A : Around} {outer : List Env} {s : Shared} {H : Hp} {E : XK} (g : Glb P K mg) (hr : RoomG false 1 (A.deeper (envOfC "is_between" (defScope s_is_between) s.heap.objs.size f cdv))) (c_is_integer : Cal false P w K mg base CX0 1 s_is_integer "is_integer" ["value"] (spE K mg (tabs K) e_is_integer)) :
    PSs (cxOf CX0 P w K mg base N_is_between "is_between" (defScope s_is_between) f cdv A outer s H E).nox (defBody s_is_between) (t_is_between K mg (tabs K)) :=
  (pss_one (ps_ret (pe_andT (pe_cal c_is_integer hr pass0 (pa_cons (pv 0) pa_nil)) (pe_one (pe_chain o_le o_le (pv 1) (pv 0) (pv 2))))))
theorem ok_is_between (g : Glb P K mg) (F : Fd K "is_between" "is_between" s_is_between f fd) (c_is_integer : Cal false P w K mg base CX0 1 s_is_integer "is_integer" ["value"] (spE K mg (tabs K) e_is_integer)) : FnG false P w K mg base CX0 2 f fd ["value", "least", "most"] (spE K mg (tabs K) e_is_between) :=
  okF0 F sc_is_between rfl rfl (tab_ok g) fun cdv A outer s H E hr => by rw [td_is_between (E := E0)]; exact d_is_between g hr c_is_integer
theorem cal_is_between (g : Glb P K mg) (hm : mg "is_between" = some (.ref f)) (F : Fd K "is_between" "is_between" s_is_between f fd) (c_is_integer : Cal false P w K mg base CX0 1 s_is_integer "is_integer" ["value"] (spE K mg (tabs K) e_is_integer)) : Cal false P w K mg base CX0 2 s_is_between "is_between" ["value", "least", "most"] (spE K mg (tabs K) e_is_between) :=
  ⟨f, fd, hm, F, F.bindsN fun _ _ _ _ _ _ us hl => match us, hl with | [_, _, _], _ => rfl, ok_is_between g F  c_is_integer⟩
theorem td_Toolu_initu {T : List (Addr × Str)} {E : XK} : denS tm_Toolu_initu (dnF K mg T E F_Toolu_initu) = t_Toolu_initu K mg T E := rfl
theorem d_Toolu_initu {kV doc pm : Value} {an : Option Addr} {cda cc : Addr} {ct : Value} {A : Around} {outer : List Env} {s : Shared} {H : Hp} {E : XK} (g : Glb P K mg) (hE : EnvS (cxOfS (L2.CX P w) P w K mg base N_Toolu_initu (PySem.W.ksFn "__init__" "Tool.__init__" (defArgs s_Toolu_initu) (defBody s_Toolu_initu) (defScope s_Toolu_initu) .none kV doc pm an (.ref cda) ct cc) f A outer s H E) (He.ga K "Tool") "self" 0) (hr : RoomG false 3 (A.deeper (callEnv (PySem.W.ksFn "__init__" "Tool.__init__" (defArgs s_Toolu_initu) (defBody s_Toolu_initu) (defScope s_Toolu_initu) .none kV doc pm an (.ref cda) ct cc) s.heap.objs.size f))) (q_Partu_initu : FnQ false P w K mg base (L2.CX P w) 3 (He.ma K (He.ga K "Part") "__init__") (spE K mg (tabs K) e_Partu_initu)) (c_is_between : Cal false P w K mg base CX0 2 s_is_between "is_between" ["value", "least", "most"] (spE K mg (tabs K) e_is_between)) :
    PSsA (cxOfS (L2.CX P w) P w K mg base N_Toolu_initu (PySem.W.ksFn "__init__" "Tool.__init__" (defArgs s_Toolu_initu) (defBody s_Toolu_initu) (defScope s_Toolu_initu) .none kV doc pm an (.ref cda) ct cc) f A outer s H E) (.func (defBody s_Toolu_initu) (callEnv (PySem.W.ksFn "__init__" "Tool.__init__" (defArgs s_Toolu_initu) (defBody s_Toolu_initu) (defScope s_Toolu_initu) .none kV doc pm an (.ref cda) ct cc) s.heap.objs.size f)) (defBody s_Toolu_initu) (t_Toolu_initu K mg (tabs K) E) :=
  (psa_expr (pea_su (sp := (fun id => spE K mg (tabs K) (F_Toolu_initu id))) (cs := [("Tool", 167)]) hE (al_cons ⟨_, _, _, _, g.supm_Tool_Tool_uinitu, q_Partu_initu, (RoomG.sub (hr.mono (by decide)) rfl), (passE (takes_of rfl rfl rfl rfl))⟩ al_nil) (pa_cons (pv 1) pa_nil)) (pss_cons (ps_if (pt_not (pt_tr (pe_cal c_is_between hr pass0 (pa_cons (pv 2) (pa_cons pe_int (pa_cons (pe_at (sp := (fun id => spE K mg (tabs K) (F_Toolu_initu id))) (cs := [("Tool", .int 64), ("Fork", .int 7)]) (pv 0) (al_cons ⟨g.cls_Tool, g.con_Tool_MOST⟩ (al_cons ⟨g.cls_Fork, g.con_Fork_MOST⟩ al_nil))) pa_nil)))))) (pss_one (ps_raiseS rfl g.sup_InvalidPart g.m_InvalidPart hr.rm (takes_of rfl rfl rfl rfl) (pa_cons pe_str pa_nil))) pss_nil)
    (pss_one (ps_fld (pv 0) (pv 2) rfl))) rfl)
theorem ok_Toolu_initu (g : Glb P K mg) (htop : (P.main.scope.names.lookup ("super" : Str)).isSome = false) (F : FunS P K "__init__" "Tool.__init__" (defArgs s_Toolu_initu) (defBody s_Toolu_initu) (defScope s_Toolu_initu) (He.ga K "Tool") (He.ma K (He.ga K "Tool") "__init__") fd) (q_Partu_initu : FnQ false P w K mg base (L2.CX P w) 3 (He.ma K (He.ga K "Part") "__init__") (spE K mg (tabs K) e_Partu_initu)) (c_is_between : Cal false P w K mg base CX0 2 s_is_between "is_between" ["value", "least", "most"] (spE K mg (tabs K) e_is_between)) : FnG false P w K mg base (L2.CX P w) 4 (He.ma K (He.ga K "Tool") "__init__") fd ["self", "name", "width"] (spE K mg (tabs K) e_Toolu_initu) :=
  okFSX F sc_Toolu_initu et_Toolu_initu g.noS htop rfl rfl (tab_ok g) (by
    obtain ⟨oc, od, kV, doc, pm, an, cda, ct, cc, osl, rfl, _⟩ := id F.ex
    intro A outer s H E hr hE
    have z := d_Toolu_initu g hE hr q_Partu_initu c_is_between
    rw [← td_Toolu_initu] at z
    exact z)
theorem bd_Toolu_initu (F : FunS P K "__init__" "Tool.__init__" (defArgs s_Toolu_initu) (defBody s_Toolu_initu) (defScope s_Toolu_initu) (He.ga K "Tool") (He.ma K (He.ga K "Tool") "__init__") fd) : Binds K fd ["self", "name", "width"] [] := F.bindsN fun _ _ _ _ _ _ _ us hl => match us, hl with | [_, _, _], _ => rfl
theorem kb_kq_Toolu_initu_0_width_name (F : FunS P K "__init__" "Tool.__init__" (defArgs s_Toolu_initu) (defBody s_Toolu_initu) (defScope s_Toolu_initu) (He.ga K "Tool") (He.ma K (He.ga K "Tool") "__init__") fd) : KBn K fd ["self", "name", "width"] 1 ["width", "name"] (gPm [1, 0]) (gPm [1, 0]) := F.kbn fun _ _ _ _ _ _ _ us ws h1 h2 => match us, ws, h1, h2 with | [_], [_, _], _, _ => rfl
theorem td_Part_cells {T : List (Addr × Str)} {E : XK} : denS tm_Part_cells (dnF K mg T E0 F_Part_cells) = t_Part_cells K mg T := rfl
theorem d_Part_cells {cdv : Value} {A : Around} {outer : List Env} {s : Shared} {H : Hp} {E : XK} (g : Glb P K mg) (hr : RoomG false 0 (A.deeper (envOfC "Part.cells" (defScope s_Part_cells) s.heap.objs.size f cdv)))  :
    PSs (cxOf CX0 P w K mg base N_Part_cells "Part.cells" (defScope s_Part_cells) f cdv A outer s H E).nox (defBody s_Part_cells) (t_Part_cells K mg (tabs K)) :=
  (pss_one (ps_ret pe_int))
theorem ok_Part_cells (g : Glb P K mg) (F : Fd K "cells" "Part.cells" s_Part_cells f fd)  : FnG false P w K mg base CX0 1 f fd ["self"] (spE K mg (tabs K) e_Part_cells) :=
  okF0 F sc_Part_cells rfl rfl (tab_ok g) fun cdv A outer s H E hr => by rw [td_Part_cells (E := E0)]; exact d_Part_cells g hr 
theorem bd_Part_cells (F : Fd K "cells" "Part.cells" s_Part_cells f fd) : Binds K fd ["self"] [] := F.bindsN fun _ _ _ _ _ _ us hl => match us, hl with | [_], _ => rfl
theorem td_Tool_cells {T : List (Addr × Str)} {E : XK} : denS tm_Tool_cells (dnF K mg T E0 F_Tool_cells) = t_Tool_cells K mg T := rfl
theorem d_Tool_cells {kV doc pm : Value} {an : Option Addr} {cda cc : Addr} {ct : Value} {A : Around} {outer : List Env} {s : Shared} {H : Hp} {E : XK} (g : Glb P K mg) (hE : EnvS (cxOfS CX0 P w K mg base N_Tool_cells (PySem.W.ksFn "cells" "Tool.cells" (defArgs s_Tool_cells) (defBody s_Tool_cells) (defScope s_Tool_cells) .none kV doc pm an (.ref cda) ct cc) f A outer s H E) (He.ga K "Tool") "self" 0) (hr : RoomG false 1 (A.deeper (callEnv (PySem.W.ksFn "cells" "Tool.cells" (defArgs s_Tool_cells) (defBody s_Tool_cells) (defScope s_Tool_cells) .none kV doc pm an (.ref cda) ct cc) s.heap.objs.size f))) (q_Part_cells : FnQ false P w K mg base CX0 1 (He.ma K (He.ga K "Part") "cells") (spE K mg (tabs K) e_Part_cells)) :
    PSsA (cxOfS CX0 P w K mg base N_Tool_cells (PySem.W.ksFn "cells" "Tool.cells" (defArgs s_Tool_cells) (defBody s_Tool_cells) (defScope s_Tool_cells) .none kV doc pm an (.ref cda) ct cc) f A outer s H E) (.func (defBody s_Tool_cells) (callEnv (PySem.W.ksFn "cells" "Tool.cells" (defArgs s_Tool_cells) (defBody s_Tool_cells) (defScope s_Tool_cells) .none kV doc pm an (.ref cda) ct cc) s.heap.objs.size f)) (defBody s_Tool_cells) (t_Tool_cells K mg (tabs K)) :=
  (psa_ret (pea_op o_add (pea_su0 (sp := (fun id => spE K mg (tabs K) (F_Tool_cells id))) (cs := [("Tool", 168)]) hE (al_cons ⟨_, _, _, _, g.supm_Tool_Tool_cells, q_Part_cells, (RoomG.sub (hr.mono (by decide)) rfl), pass0⟩ al_nil)) (pe_at (sp := (fun id => spE K mg (tabs K) (F_Tool_cells id))) (cs := [("Tool", .fld)]) (pv 0) (al_cons ⟨g.cls_Tool, g.noat_Tool_width⟩ al_nil))))
theorem ok_Tool_cells (g : Glb P K mg) (htop : (P.main.scope.names.lookup ("super" : Str)).isSome = false) (F : FunS P K "cells" "Tool.cells" (defArgs s_Tool_cells) (defBody s_Tool_cells) (defScope s_Tool_cells) (He.ga K "Tool") (He.ma K (He.ga K "Tool") "cells") fd) (q_Part_cells : FnQ false P w K mg base CX0 1 (He.ma K (He.ga K "Part") "cells") (spE K mg (tabs K) e_Part_cells)) : FnG false P w K mg base CX0 2 (He.ma K (He.ga K "Tool") "cells") fd ["self"] (spE K mg (tabs K) e_Tool_cells) :=
  okFS0 F sc_Tool_cells et_Tool_cells g.noS htop rfl rfl (tab_ok g) (by
    obtain ⟨oc, od, kV, doc, pm, an, cda, ct, cc, osl, rfl, _⟩ := id F.ex
    intro A outer s H E hr hE
    have z := d_Tool_cells g hE hr q_Part_cells
    rw [← td_Tool_cells (E := E0)] at z
    exact z)
theorem bd_Tool_cells (F : FunS P K "cells" "Tool.cells" (defArgs s_Tool_cells) (defBody s_Tool_cells) (defScope s_Tool_cells) (He.ga K "Tool") (He.ma K (He.ga K "Tool") "cells") fd) : Binds K fd ["self"] [] := F.bindsN fun _ _ _ _ _ _ _ us hl => match us, hl with | [_], _ => rfl
theorem td_number_width {T : List (Addr × Str)} {E : XK} : denS tm_number_width (dnF K mg T E0 F_number_width) = t_number_width K mg T := rfl
theorem d_number_width {cdv : Value} {A : Around} {outer : List Env} {s : Shared} {H : Hp} {E : XK} (g : Glb P K mg) (hr : RoomG false 0 (A.deeper (envOfC "number_width" (defScope s_number_width) s.heap.objs.size f cdv)))  :
    PSs (cxOf CX0 P w K mg base N_number_width "number_width" (defScope s_number_width) f cdv A outer s H E).nox (defBody s_number_width) (t_number_width K mg (tabs K)) :=
  (pss_one (ps_ret (pe_ifExp (pt_cmpR (o_eq hr.rm.units) (pv 0) pe_int (nomark _)) pe_int (pe_ifExp (pt_cmpR (o_ltX hr.rm.units0) (pv 0) pe_int (nomark _)) pe_int pe_int))))
theorem ok_number_width (g : Glb P K mg) (F : Fd K "number_width" "number_width" s_number_width f fd)  : FnG false P w K mg base CX0 1 f fd ["many"] (spE K mg (tabs K) e_number_width) :=
  okF0 F sc_number_width rfl rfl (tab_ok g) fun cdv A outer s H E hr => by rw [td_number_width (E := E0)]; exact d_number_width g hr 
theorem cal_number_width (g : Glb P K mg) (hm : mg "number_width" = some (.ref f)) (F : Fd K "number_width" "number_width" s_number_width f fd)  : Cal false P w K mg base CX0 1 s_number_width "number_width" ["many"] (spE K mg (tabs K) e_number_width) :=
  ⟨f, fd, hm, F, F.bindsN fun _ _ _ _ _ _ us hl => match us, hl with | [_], _ => rfl, ok_number_width g F  ⟩
theorem td_Fork_lines {T : List (Addr × Str)} {E : XK} : denS tm_Fork_lines (dnF K mg T E0 F_Fork_lines) = t_Fork_lines K mg T := rfl
theorem d_Fork_lines {cdv : Value} {A : Around} {outer : List Env} {s : Shared} {H : Hp} {E : XK} (g : Glb P K mg) (hr : RoomG false 0 (A.deeper (envOfC "Fork.lines" (defScope s_Fork_lines) s.heap.objs.size f cdv)))  :
    PSs (cxOf CX0 P w K mg base N_Fork_lines "Fork.lines" (defScope s_Fork_lines) f cdv A outer s H E).nox (defBody s_Fork_lines) (t_Fork_lines K mg (tabs K)) :=
  (pss_one (ps_ret (pe_at (sp := (fun id => spE K mg (tabs K) (F_Fork_lines id))) (cs := [("Fork", .fld)]) (pv 0) (al_cons ⟨g.cls_Fork, g.noat_Fork_own_lines⟩ al_nil))))
theorem ok_Fork_lines (g : Glb P K mg) (F : Fd K "lines" "Fork.lines" s_Fork_lines f fd)  : FnG false P w K mg base CX0 1 f fd ["self"] (spE K mg (tabs K) e_Fork_lines) :=
  okF0 F sc_Fork_lines rfl rfl (tab_ok g) fun cdv A outer s H E hr => by rw [td_Fork_lines (E := E0)]; exact d_Fork_lines g hr 
theorem bd_Fork_lines (F : Fd K "lines" "Fork.lines" s_Fork_lines f fd) : Binds K fd ["self"] [] := F.bindsN fun _ _ _ _ _ _ us hl => match us, hl with | [_], _ => rfl
theorem td_Fork_cells {T : List (Addr × Str)} {E : XK} : denS tm_Fork_cells (dnF K mg T E0 F_Fork_cells) = t_Fork_cells K mg T := rfl
theorem d_Fork_cells {kV doc pm : Value} {an : Option Addr} {cda cc : Addr} {ct : Value} {A : Around} {outer : List Env} {s : Shared} {H : Hp} {E : XK} (g : Glb P K mg) (hE : EnvS (cxOfS CX0 P w K mg base N_Fork_cells (PySem.W.ksFn "cells" "Fork.cells" (defArgs s_Fork_cells) (defBody s_Fork_cells) (defScope s_Fork_cells) .none kV doc pm an (.ref cda) ct cc) f A outer s H E) (He.ga K "Fork") "self" 0) (hr : RoomG false 2 (A.deeper (callEnv (PySem.W.ksFn "cells" "Fork.cells" (defArgs s_Fork_cells) (defBody s_Fork_cells) (defScope s_Fork_cells) .none kV doc pm an (.ref cda) ct cc) s.heap.objs.size f))) (q_Part_cells : FnQ false P w K mg base CX0 1 (He.ma K (He.ga K "Part") "cells") (spE K mg (tabs K) e_Part_cells)) (c_number_width : Cal false P w K mg base CX0 1 s_number_width "number_width" ["many"] (spE K mg (tabs K) e_number_width)) (q_Fork_lines : FnQ false P w K mg base CX0 1 (prG K "Fork" "lines") (spE K mg (tabs K) e_Fork_lines)) :
    PSsA (cxOfS CX0 P w K mg base N_Fork_cells (PySem.W.ksFn "cells" "Fork.cells" (defArgs s_Fork_cells) (defBody s_Fork_cells) (defScope s_Fork_cells) .none kV doc pm an (.ref cda) ct cc) f A outer s H E) (.func (defBody s_Fork_cells) (callEnv (PySem.W.ksFn "cells" "Fork.cells" (defArgs s_Fork_cells) (defBody s_Fork_cells) (defScope s_Fork_cells) .none kV doc pm an (.ref cda) ct cc) s.heap.objs.size f)) (defBody s_Fork_cells) (t_Fork_cells K mg (tabs K)) :=
  (psa_ret (pea_op o_add (pea_su0 (sp := (fun id => spE K mg (tabs K) (F_Fork_cells id))) (cs := [("Fork", 168)]) hE (al_cons ⟨_, _, _, _, g.supm_Fork_Fork_cells, q_Part_cells, (RoomG.sub (hr.mono (by decide)) rfl), pass0⟩ al_nil)) (pe_cal c_number_width hr pass0 (pa_cons (pe_callB b_len rfl g.n_len (by decide +kernel) (pa_cons (pe_at (sp := (fun id => spE K mg (tabs K) (F_Fork_cells id))) (cs := [("Fork", .prop 177)]) (pv 0) (al_cons ⟨g.cls_Fork, _, _, _, _, g.prop_Fork_lines, q_Fork_lines, (RoomG.sub (hr.mono (by decide)) rfl)⟩ al_nil)) pa_nil)) pa_nil))))
theorem ok_Fork_cells (g : Glb P K mg) (htop : (P.main.scope.names.lookup ("super" : Str)).isSome = false) (F : FunS P K "cells" "Fork.cells" (defArgs s_Fork_cells) (defBody s_Fork_cells) (defScope s_Fork_cells) (He.ga K "Fork") (He.ma K (He.ga K "Fork") "cells") fd) (q_Part_cells : FnQ false P w K mg base CX0 1 (He.ma K (He.ga K "Part") "cells") (spE K mg (tabs K) e_Part_cells)) (c_number_width : Cal false P w K mg base CX0 1 s_number_width "number_width" ["many"] (spE K mg (tabs K) e_number_width)) (q_Fork_lines : FnQ false P w K mg base CX0 1 (prG K "Fork" "lines") (spE K mg (tabs K) e_Fork_lines)) : FnG false P w K mg base CX0 3 (He.ma K (He.ga K "Fork") "cells") fd ["self"] (spE K mg (tabs K) e_Fork_cells) :=
  okFS0 F sc_Fork_cells et_Fork_cells g.noS htop rfl rfl (tab_ok g) (by
    obtain ⟨oc, od, kV, doc, pm, an, cda, ct, cc, osl, rfl, _⟩ := id F.ex
    intro A outer s H E hr hE
    have z := d_Fork_cells g hE hr q_Part_cells c_number_width q_Fork_lines
    rw [← td_Fork_cells (E := E0)] at z
    exact z)
theorem bd_Fork_cells (F : FunS P K "cells" "Fork.cells" (defArgs s_Fork_cells) (defBody s_Fork_cells) (defScope s_Fork_cells) (He.ga K "Fork") (He.ma K (He.ga K "Fork") "cells") fd) : Binds K fd ["self"] [] := F.bindsN fun _ _ _ _ _ _ _ us hl => match us, hl with | [_], _ => rfl
theorem td_Partu_equ {T : List (Addr × Str)} {E : XK} : denS tm_Partu_equ (dnF K mg T E0 F_Partu_equ) = t_Partu_equ K mg T := rfl
theorem d_Partu_equ {cdv : Value} {A : Around} {outer : List Env} {s : Shared} {H : Hp} {E : XK} (g : Glb P K mg) (hr : RoomG false 0 (A.deeper (envOfC "Part.__eq__" (defScope s_Partu_equ) s.heap.objs.size f cdv)))  :
    PSs (cxOf CX0 P w K mg base N_Partu_equ "Part.__eq__" (defScope s_Partu_equ) f cdv A outer s H E).nox (defBody s_Partu_equ) (t_Partu_equ K mg (tabs K)) :=
  (pss_one (ps_ret pe_bl))
theorem ok_Partu_equ (g : Glb P K mg) (F : Fd K "__eq__" "Part.__eq__" s_Partu_equ f fd)  : FnG false P w K mg base CX0 1 f fd ["self", "other"] (spE K mg (tabs K) e_Partu_equ) :=
  okF0 F sc_Partu_equ rfl rfl (tab_ok g) fun cdv A outer s H E hr => by rw [td_Partu_equ (E := E0)]; exact d_Partu_equ g hr 
theorem bd_Partu_equ (F : Fd K "__eq__" "Part.__eq__" s_Partu_equ f fd) : Binds K fd ["self", "other"] [] := F.bindsN fun _ _ _ _ _ _ us hl => match us, hl with | [_, _], _ => rfl
theorem td_Toolu_equ {T : List (Addr × Str)} {E : XK} : denS tm_Toolu_equ (dnF K mg T E0 F_Toolu_equ) = t_Toolu_equ K mg T := rfl
theorem d_Toolu_equ {cdv : Value} {A : Around} {outer : List Env} {s : Shared} {H : Hp} {E : XK} (g : Glb P K mg) (hr : RoomG false 0 (A.deeper (envOfC "Tool.__eq__" (defScope s_Toolu_equ) s.heap.objs.size f cdv)))  :
    PSs (cxOf CX0 P w K mg base N_Toolu_equ "Tool.__eq__" (defScope s_Toolu_equ) f cdv A outer s H E).nox (defBody s_Toolu_equ) (t_Toolu_equ K mg (tabs K)) :=
  (pss_one (ps_ret (pe_andT (pe_callB call_isi rfl g.n_isinstance (by decide +kernel) (pa_cons (pv 1) (pa_cons (pe_glob rfl g.m_Tool rfl) pa_nil))) (pe_andT (pe_cmpR (o_eq hr.rm.units) (pe_at (sp := (fun id => spE K mg (tabs K) (F_Toolu_equ id))) (cs := [("Part", .fld), ("Tool", .fld), ("Fork", .fld)]) (pv 0) (al_cons ⟨g.cls_Part, g.noat_Part_name⟩ (al_cons ⟨g.cls_Tool, g.noat_Tool_name⟩ (al_cons ⟨g.cls_Fork, g.noat_Fork_name⟩ al_nil)))) (pe_at (sp := (fun id => spE K mg (tabs K) (F_Toolu_equ id))) (cs := [("Part", .fld), ("Tool", .fld), ("Fork", .fld)]) (pv 1) (al_cons ⟨g.cls_Part, g.noat_Part_name⟩ (al_cons ⟨g.cls_Tool, g.noat_Tool_name⟩ (al_cons ⟨g.cls_Fork, g.noat_Fork_name⟩ al_nil)))) (nomark _)) (pe_one (pe_cmpR (o_eq hr.rm.units) (pe_at (sp := (fun id => spE K mg (tabs K) (F_Toolu_equ id))) (cs := [("Tool", .fld)]) (pv 0) (al_cons ⟨g.cls_Tool, g.noat_Tool_width⟩ al_nil)) (pe_at (sp := (fun id => spE K mg (tabs K) (F_Toolu_equ id))) (cs := [("Tool", .fld)]) (pv 1) (al_cons ⟨g.cls_Tool, g.noat_Tool_width⟩ al_nil)) (nomark _)))))))
theorem ok_Toolu_equ (g : Glb P K mg) (F : Fd K "__eq__" "Tool.__eq__" s_Toolu_equ f fd)  : FnG false P w K mg base CX0 1 f fd ["self", "other"] (spE K mg (tabs K) e_Toolu_equ) :=
  okF0 F sc_Toolu_equ rfl rfl (tab_ok g) fun cdv A outer s H E hr => by rw [td_Toolu_equ (E := E0)]; exact d_Toolu_equ g hr 
theorem bd_Toolu_equ (F : Fd K "__eq__" "Tool.__eq__" s_Toolu_equ f fd) : Binds K fd ["self", "other"] [] := F.bindsN fun _ _ _ _ _ _ us hl => match us, hl with | [_, _], _ => rfl
theorem td_Forku_equ {T : List (Addr × Str)} {E : XK} : denS tm_Forku_equ (dnF K mg T E0 F_Forku_equ) = t_Forku_equ K mg T := rfl
theorem d_Forku_equ {cdv : Value} {A : Around} {outer : List Env} {s : Shared} {H : Hp} {E : XK} (g : Glb P K mg) (hr : RoomG false 2 (A.deeper (envOfC "Fork.__eq__" (defScope s_Forku_equ) s.heap.objs.size f cdv))) (q_Fork_lines : FnQ false P w K mg base CX0 1 (prG K "Fork" "lines") (spE K mg (tabs K) e_Fork_lines)) :
    PSs (cxOf CX0 P w K mg base N_Forku_equ "Fork.__eq__" (defScope s_Forku_equ) f cdv A outer s H E).nox (defBody s_Forku_equ) (t_Forku_equ K mg (tabs K)) :=
  (pss_one (ps_ret (pe_andT (pe_callB call_isi rfl g.n_isinstance (by decide +kernel) (pa_cons (pv 1) (pa_cons (pe_glob rfl g.m_Fork rfl) pa_nil))) (pe_andT (pe_cmpR (o_eq hr.rm.units) (pe_at (sp := (fun id => spE K mg (tabs K) (F_Forku_equ id))) (cs := [("Part", .fld), ("Tool", .fld), ("Fork", .fld)]) (pv 0) (al_cons ⟨g.cls_Part, g.noat_Part_name⟩ (al_cons ⟨g.cls_Tool, g.noat_Tool_name⟩ (al_cons ⟨g.cls_Fork, g.noat_Fork_name⟩ al_nil)))) (pe_at (sp := (fun id => spE K mg (tabs K) (F_Forku_equ id))) (cs := [("Part", .fld), ("Tool", .fld), ("Fork", .fld)]) (pv 1) (al_cons ⟨g.cls_Part, g.noat_Part_name⟩ (al_cons ⟨g.cls_Tool, g.noat_Tool_name⟩ (al_cons ⟨g.cls_Fork, g.noat_Fork_name⟩ al_nil)))) (nomark _)) (pe_one (pe_cmpR (o_eq hr.rm.units) (pe_at (sp := (fun id => spE K mg (tabs K) (F_Forku_equ id))) (cs := [("Fork", .prop 177)]) (pv 0) (al_cons ⟨g.cls_Fork, _, _, _, _, g.prop_Fork_lines, q_Fork_lines, (RoomG.sub (hr.mono (by decide)) rfl)⟩ al_nil)) (pe_at (sp := (fun id => spE K mg (tabs K) (F_Forku_equ id))) (cs := [("Fork", .prop 177)]) (pv 1) (al_cons ⟨g.cls_Fork, _, _, _, _, g.prop_Fork_lines, q_Fork_lines, (RoomG.sub (hr.mono (by decide)) rfl)⟩ al_nil)) (nomark _)))))))
theorem ok_Forku_equ (g : Glb P K mg) (F : Fd K "__eq__" "Fork.__eq__" s_Forku_equ f fd) (q_Fork_lines : FnQ false P w K mg base CX0 1 (prG K "Fork" "lines") (spE K mg (tabs K) e_Fork_lines)) : FnG false P w K mg base CX0 3 f fd ["self", "other"] (spE K mg (tabs K) e_Forku_equ) :=
  okF0 F sc_Forku_equ rfl rfl (tab_ok g) fun cdv A outer s H E hr => by rw [td_Forku_equ (E := E0)]; exact d_Forku_equ g hr q_Fork_lines
theorem bd_Forku_equ (F : Fd K "__eq__" "Fork.__eq__" s_Forku_equ f fd) : Binds K fd ["self", "other"] [] := F.bindsN fun _ _ _ _ _ _ us hl => match us, hl with | [_, _], _ => rfl
theorem td_is_line {T : List (Addr × Str)} {E : XK} : denS tm_is_line (dnF K mg T E0 F_is_line) = t_is_line K mg T := rfl
theorem d_is_line {cdv : Value} {A : Around} {outer : List Env} {s : Shared} {H : Hp} {E : XK} (g : Glb P K mg) (hr : RoomG false 0 (A.deeper (envOfC "is_line" (defScope s_is_line) s.heap.objs.size f cdv)))  :
    PSs (cxOf CX0 P w K mg base N_is_line "is_line" (defScope s_is_line) f cdv A outer s H E).nox (defBody s_is_line) (t_is_line K mg (tabs K)) :=
  (pss_cons (ps_if (PW.pt (pw_or (pt_not (pt_tr (pe_callB call_isiT rfl g.n_isinstance (by decide +kernel) (pa_cons (pv 0) (pa_cons (pe_tup (pa_cons (pe_bltn rfl g.n_tuple (by decide +kernel) rfl) (pa_cons (pe_bltn rfl g.n_list (by decide +kernel) rfl) pa_nil))) pa_nil))))) (pw_or1 (pt_cmpR (o_eq hr.rm.units) (pe_callB b_len rfl g.n_len (by decide +kernel) (pa_cons (pv 0) pa_nil)) pe_int (nomark _))))) (pss_one (ps_ret pe_bl)) pss_nil)
    (pss_one (ps_ret (pe_callB (b_all rfl) rfl g.n_all (by decide +kernel) (pa_cons (pe_lc (own := [("part", 1)]) (g := (gName 1)) (tt := tYes) (te := (tCB (rIsiT K) (tCons (tVar 1) (tCons (tTup (tCons (tC (.ref (He.ga K "Tool"))) (tCons (tC (.ref (He.ga K "Fork"))) tNil))) tNil)))) rfl sc_is_line.nd (pi_sq (pv 0)) (blkOk_by (own := [("part", 1)]) (N := N_is_line) (sc := defScope s_is_line) (by decide +kernel)) (fun _ _ _ _ _ => (pg_name (i := 1) sc_is_line.nd rfl (Or.inl rfl))) (fun _ _ _ _ _ => pts_nil) (fun _ _ _ _ _ => (pe_callB call_isiT rfl g.n_isinstance (by decide +kernel) (pa_cons (pv 1) (pa_cons (pe_tup (pa_cons (pe_glob rfl g.m_Tool rfl) (pa_cons (pe_glob rfl g.m_Fork rfl) pa_nil))) pa_nil))))) pa_nil)))))
theorem ok_is_line (g : Glb P K mg) (F : Fd K "is_line" "is_line" s_is_line f fd)  : FnG false P w K mg base CX0 1 f fd ["value"] (spE K mg (tabs K) e_is_line) :=
  okF0 F sc_is_line rfl rfl (tab_ok g) fun cdv A outer s H E hr => by rw [td_is_line (E := E0)]; exact d_is_line g hr 
theorem cal_is_line (g : Glb P K mg) (hm : mg "is_line" = some (.ref f)) (F : Fd K "is_line" "is_line" s_is_line f fd)  : Cal false P w K mg base CX0 1 s_is_line "is_line" ["value"] (spE K mg (tabs K) e_is_line) :=
  ⟨f, fd, hm, F, F.bindsN fun _ _ _ _ _ _ us hl => match us, hl with | [_], _ => rfl, ok_is_line g F  ⟩
theorem td_Forku_initu {T : List (Addr × Str)} {E : XK} : denS tm_Forku_initu (dnF K mg T E F_Forku_initu) = t_Forku_initu K mg T E := rfl
theorem d_Forku_initu {kV doc pm : Value} {an : Option Addr} {cda cc : Addr} {ct : Value} {A : Around} {outer : List Env} {s : Shared} {H : Hp} {E : XK} (g : Glb P K mg) (hE : EnvS (cxOfS (L2.CX P w) P w K mg base N_Forku_initu (PySem.W.ksFn "__init__" "Fork.__init__" (defArgs s_Forku_initu) (defBody s_Forku_initu) (defScope s_Forku_initu) .none kV doc pm an (.ref cda) ct cc) f A outer s H E) (He.ga K "Fork") "self" 0) (hr : RoomG false 3 (A.deeper (callEnv (PySem.W.ksFn "__init__" "Fork.__init__" (defArgs s_Forku_initu) (defBody s_Forku_initu) (defScope s_Forku_initu) .none kV doc pm an (.ref cda) ct cc) s.heap.objs.size f))) (q_Partu_initu : FnQ false P w K mg base (L2.CX P w) 3 (He.ma K (He.ga K "Part") "__init__") (spE K mg (tabs K) e_Partu_initu)) (c_is_line : Cal false P w K mg base CX0 1 s_is_line "is_line" ["value"] (spE K mg (tabs K) e_is_line)) :
    PSsA (cxOfS (L2.CX P w) P w K mg base N_Forku_initu (PySem.W.ksFn "__init__" "Fork.__init__" (defArgs s_Forku_initu) (defBody s_Forku_initu) (defScope s_Forku_initu) .none kV doc pm an (.ref cda) ct cc) f A outer s H E) (.func (defBody s_Forku_initu) (callEnv (PySem.W.ksFn "__init__" "Fork.__init__" (defArgs s_Forku_initu) (defBody s_Forku_initu) (defScope s_Forku_initu) .none kV doc pm an (.ref cda) ct cc) s.heap.objs.size f)) (defBody s_Forku_initu) (t_Forku_initu K mg (tabs K) E) :=
  (psa_expr (pea_su (sp := (fun id => spE K mg (tabs K) (F_Forku_initu id))) (cs := [("Fork", 167)]) hE (al_cons ⟨_, _, _, _, g.supm_Fork_Fork_uinitu, q_Partu_initu, (RoomG.sub (hr.mono (by decide)) rfl), (passE (takes_of rfl rfl rfl rfl))⟩ al_nil) (pa_cons (pv 1) pa_nil)) (pss_cons (ps_if (pt_not (pt_chain o_le o_le pe_int (pe_callB b_len rfl g.n_len (by decide +kernel) (pa_cons (pv 2) pa_nil)) (pe_at (sp := (fun id => spE K mg (tabs K) (F_Forku_initu id))) (cs := [("Tool", .int 64), ("Fork", .int 7)]) (pv 0) (al_cons ⟨g.cls_Tool, g.con_Tool_MOST⟩ (al_cons ⟨g.cls_Fork, g.con_Fork_MOST⟩ al_nil))))) (pss_one (ps_raiseS rfl g.sup_InvalidPart g.m_InvalidPart hr.rm (takes_of rfl rfl rfl rfl) (pa_cons pe_str pa_nil))) pss_nil)
    (pss_cons (ps_if (pt_not (pt_tr (pe_callB (b_all rfl) rfl g.n_all (by decide +kernel) (pa_cons (pe_lc (own := [("line", 3)]) (g := (gName 3)) (tt := tYes) (te := (tCB (fun vs H Q => spE K mg (tabs K) e_is_line vs H Q E0) (tCons (tVar 3) tNil))) rfl sc_Forku_initu.nd (pi_sq (pv 2)) (blkOk_by (own := [("line", 3)]) (N := N_Forku_initu) (sc := defScope s_Forku_initu) (by decide +kernel)) (fun _ _ _ _ _ => (pg_name (i := 3) sc_Forku_initu.nd rfl (Or.inl rfl))) (fun _ _ _ _ _ => pts_nil) (fun _ _ _ _ _ => (pe_cal c_is_line hr pass0 (pa_cons (pv 3) pa_nil)))) pa_nil)))) (pss_one (ps_raiseS rfl g.sup_InvalidPart g.m_InvalidPart hr.rm (takes_of rfl rfl rfl rfl) (pa_cons pe_str pa_nil))) pss_nil)
    (pss_one (ps_fld (pv 0) (pe_callTy b_tuple rfl g.n_tuple (by decide +kernel) (pa_cons (pe_lc (own := [("line", 3)]) (g := (gName 3)) (tt := tYes) (te := (tCB (rTuple K) (tCons (tVar 3) tNil))) rfl sc_Forku_initu.nd (pi_sq (pv 2)) (blkOk_by (own := [("line", 3)]) (N := N_Forku_initu) (sc := defScope s_Forku_initu) (by decide +kernel)) (fun _ _ _ _ _ => (pg_name (i := 3) sc_Forku_initu.nd rfl (Or.inl rfl))) (fun _ _ _ _ _ => pts_nil) (fun _ _ _ _ _ => (pe_callTy b_tuple rfl g.n_tuple (by decide +kernel) (pa_cons (pv 3) pa_nil)))) pa_nil)) rfl)))) rfl)
theorem q_Forku_initu (g : Glb P K mg) (htop : (P.main.scope.names.lookup ("super" : Str)).isSome = false) (F : FunS P K "__init__" "Fork.__init__" (defArgs s_Forku_initu) (defBody s_Forku_initu) (defScope s_Forku_initu) (He.ga K "Fork") (He.ma K (He.ga K "Fork") "__init__") fd) (q_Partu_initu : FnQ false P w K mg base (L2.CX P w) 3 (He.ma K (He.ga K "Part") "__init__") (spE K mg (tabs K) e_Partu_initu)) (c_is_line : Cal false P w K mg base CX0 1 s_is_line "is_line" ["value"] (spE K mg (tabs K) e_is_line)) : FnQ false P w K mg base (L2.CX P w) 4 (He.ma K (He.ga K "Fork") "__init__") (spE K mg (tabs K) e_Forku_initu) :=
  FnQ.star <| okFSXV (ps := ["self", "name"]) (pv := "lines") F sc_Forku_initu et_Forku_initu g.noS htop rfl rfl (tab_ok g) (fun _ _ _ _ _ _ _ => bndV2 rfl rfl rfl rfl rfl rfl) (by
    obtain ⟨oc, od, kV, doc, pm, an, cda, ct, cc, osl, rfl, _⟩ := id F.ex
    intro A outer s H E hr hE
    have z := d_Forku_initu g hE hr q_Partu_initu c_is_line
    rw [← td_Forku_initu] at z
    exact z)
theorem td__law_odd_label {T : List (Addr × Str)} {E : XK} : denS tm__law_odd_label (dnF K mg T E0 F__law_odd_label) = t__law_odd_label K mg T := rfl
theorem d__law_odd_label {cdv : Value} {A : Around} {outer : List Env} {s : Shared} {H : Hp} {E : XK} (g : Glb P K mg) (hr : RoomG false 2 (A.deeper (envOfC "_law_odd_label" (defScope s__law_odd_label) s.heap.objs.size f cdv))) (c__law_pick : Cal false P w K mg base CX0 2 s__law_pick "_law_pick" ["_law_pen_here", "_law_some"] (spE K mg (tabs K) e__law_pick)) :
    PSs (cxOf CX0 P w K mg base N__law_odd_label "_law_odd_label" (defScope s__law_odd_label) f cdv A outer s H E).nox (defBody s__law_odd_label) (t__law_odd_label K mg (tabs K)) :=
  (pss_cons (ps_set (i := 1) sc__law_odd_label.nd rfl (Or.inl rfl) (pe_lst (pa_cons pe_str (pa_cons pe_str (pa_cons pe_str (pa_cons pe_str (pa_cons pe_str (pa_cons pe_str (pa_cons pe_str (pa_cons pe_str (pa_cons pe_non (pa_cons pe_bl (pa_cons pe_int (pa_cons (pe_tup (pa_cons pe_str pa_nil)) (pa_cons (pe_lst (pa_cons pe_str pa_nil)) (pa_cons pe_dnewK (pa_cons pe_str (pa_cons pe_str pa_nil))))))))))))))))))
    (pss_one (ps_ret (pe_cal c__law_pick hr pass0 (pa_cons (pv 0) (pa_cons (pv 1) pa_nil))))))
theorem ok__law_odd_label (g : Glb P K mg) (F : Fd K "_law_odd_label" "_law_odd_label" s__law_odd_label f fd) (c__law_pick : Cal false P w K mg base CX0 2 s__law_pick "_law_pick" ["_law_pen_here", "_law_some"] (spE K mg (tabs K) e__law_pick)) : FnG false P w K mg base CX0 3 f fd ["_law_pen_here"] (spE K mg (tabs K) e__law_odd_label) :=
  okF0 F sc__law_odd_label rfl rfl (tab_ok g) fun cdv A outer s H E hr => by rw [td__law_odd_label (E := E0)]; exact d__law_odd_label g hr c__law_pick
theorem cal__law_odd_label (g : Glb P K mg) (hm : mg "_law_odd_label" = some (.ref f)) (F : Fd K "_law_odd_label" "_law_odd_label" s__law_odd_label f fd) (c__law_pick : Cal false P w K mg base CX0 2 s__law_pick "_law_pick" ["_law_pen_here", "_law_some"] (spE K mg (tabs K) e__law_pick)) : Cal false P w K mg base CX0 3 s__law_odd_label "_law_odd_label" ["_law_pen_here"] (spE K mg (tabs K) e__law_odd_label) :=
  ⟨f, fd, hm, F, F.bindsN fun _ _ _ _ _ _ us hl => match us, hl with | [_], _ => rfl, ok__law_odd_label g F  c__law_pick⟩
theorem hear__law_heard {X : Cx} {cdg : Value} {q : Str} (g : Glb X.prog X.K X.mg) (hr0 : RoomG true 1 X.A) : LamX.GivesTo X N__law_heard "_law_heard" (defScope s__law_heard) f cdg (defBody s__law_heard) "_law_ask" q (TTh X.K (He.ga X.K "PathError") 2 1 3 (k__law_heard X.K X.mg) wrL) :=
  heard_gives sc__law_heard.nd rfl rfl (by decide) (by decide) rfl rfl rfl g.m_PathError (by decide) (by decide) (by decide) (fun s H => ps_set (i := 1) sc__law_heard.nd rfl (Or.inl rfl) pe_non) (fun _ _ => rfl) (fun s H pn xe te h => pe_lst (pa_cons (h _ _) pa_nil)) (fun te te2 σ H Q h z => h _ z)
    (fun s H a oe cls d hz hf => by
      have hr := hr0.deeper (envOfC "_law_heard" (defScope s__law_heard) s.heap.objs.size f cdg)
      exact (pss_cons (ps_if (pt_tr (pe_callB (call_isHV hz hf) rfl g.n_isinstance (by decide +kernel) (pa_cons (pv 1) (pa_cons (pe_glob rfl g.m_InvalidName rfl) pa_nil)))) (pss_one (ps_ret (pe_tup (pa_cons pe_str (pa_cons (pe_callB (b_repr hr) rfl g.n_repr (by decide +kernel) (pa_cons (pe_hvf hz hf (pv 1)) pa_nil)) pa_nil))))) pss_nil)
    (pss_one (ps_ret (pe_ifExp (pt_tr (pe_callB (call_isHV hz hf) rfl g.n_isinstance (by decide +kernel) (pa_cons (pv 1) (pa_cons (pe_glob rfl g.m_InvalidPart rfl) pa_nil)))) (pe_tup (pa_cons pe_str (pa_cons (pe_hvf hz hf (pv 1)) pa_nil))) pe_str)))))
theorem td__law_refused_right {T : List (Addr × Str)} {E : XK} : denS tm__law_refused_right (dnF K mg T E0 F__law_refused_right) = t__law_refused_right K mg T := rfl
theorem d__law_refused_right {cdv : Value} {A : Around} {outer : List Env} {s : Shared} {H : Hp} {E : XK} (g : Glb P K mg) (hr : RoomG true 8 (A.deeper (envOfC "_law_refused_right" (defScope s__law_refused_right) s.heap.objs.size f cdv))) {fh : Addr} {fdh : FuncData} (F__law_heard : Fd K "_law_heard" "_law_heard" s__law_heard fh fdh) (m__law_heard : mg "_law_heard" = some (.ref fh)) (b__law_heard : Binds K fdh ["_law_ask"] []) (TB : LamX.TabB base mg (He.cT K ("_law_refused_right", none)).1 (He.cT K ("_law_refused_right", none)).2) (hnd : ((tabs K).map (·.1)).Nodup) (hcode : cdv = .ref (He.cT K ("_law_refused_right", none)).1) (c__law_odd_label : Cal false P w K mg base CX0 3 s__law_odd_label "_law_odd_label" ["_law_pen_here"] (spE K mg (tabs K) e__law_odd_label)) (c__law_label : Cal false P w K mg base CX0 3 s__law_label "_law_label" ["_law_pen_here"] (spE K mg (tabs K) e__law_label)) (c__law_pick : Cal false P w K mg base CX0 2 s__law_pick "_law_pick" ["_law_pen_here", "_law_some"] (spE K mg (tabs K) e__law_pick)) (q_Partu_initu : FnQ false P w K mg base (L2.CX P w) 3 (He.ma K (He.ga K "Part") "__init__") (spE K mg (tabs K) e_Partu_initu)) (kq_Partu_initu_0_name : FnK false P w K mg base (L2.CX P w) 3 (He.ma K (He.ga K "Part") "__init__") 1 ["name"] [0] (spE K mg (tabs K) e_Partu_initu)) (q_Toolu_initu : FnQ false P w K mg base (L2.CX P w) 4 (He.ma K (He.ga K "Tool") "__init__") (spE K mg (tabs K) e_Toolu_initu)) (kq_Toolu_initu_0_width_name : FnK false P w K mg base (L2.CX P w) 4 (He.ma K (He.ga K "Tool") "__init__") 1 ["width", "name"] [1, 0] (spE K mg (tabs K) e_Toolu_initu)) :
    PSs (cxOf CX0 P w K mg base N__law_refused_right "_law_refused_right" (defScope s__law_refused_right) f cdv A outer s H E).nox (defBody s__law_refused_right) (t__law_refused_right K mg (tabs K)) :=
  (pss_cons (ps_asg (pe_tup (pa_cons (pe_cal c__law_label hr pass0 (pa_cons (pv 0) pa_nil)) (pa_cons (pe_cal c__law_odd_label hr pass0 (pa_cons (pv 0) pa_nil)) pa_nil))) (pg_tup rfl (pgs_cons (pg_name (i := 1) sc__law_refused_right.nd rfl (Or.inr rfl)) (pgs_cons (pg_name (i := 2) sc__law_refused_right.nd rfl (Or.inr rfl)) pgs_nil))))
    (pss_cons (ps_set (i := 3) sc__law_refused_right.nd rfl (Or.inr rfl) (pe_cal c__law_pick hr pass0 (pa_cons (pv 0) (pa_cons (pe_lst (pa_cons pe_int (pa_cons pe_int (pa_cons (pe_un un_neg pe_int) (pa_cons pe_bl (pa_cons pe_non (pa_cons pe_str (pa_cons (pe_tup (pa_cons pe_int pa_nil)) (pa_cons (pe_lst (pa_cons pe_int pa_nil)) (pa_cons pe_dnewK (pa_cons (pe_op o_pow pe_int pe_int) pa_nil))))))))))) pa_nil))))
    (pss_cons (ps_set (i := 4) sc__law_refused_right.nd rfl (Or.inl rfl) (pe_lst (pa_cons (pe_hear (k := 5) F__law_heard m__law_heard b__law_heard sc__law_heard rfl (Or.inl rfl) (fun cdg => hear__law_heard g (hr.mono (by decide))) TB hcode (List.mem_of_getElem? (i := 0) rfl) (tabs_un (a := ((He.cT K ("_law_refused_right", none)).2, ("_law_refused_right" : Str) ++ ".<locals>." ++ "<lambda>")) (List.mem_of_getElem? (i := 0) rfl) hnd) (hr.rm.mono (by decide)) (LamX.lamS_by (sc := defScope s__law_refused_right) (by decide +kernel)) (fun A outer s H E f c' hr => (pe_mk (sp := (fun id => spE K mg (tabs K) (F__law_refused_right id))) (cn := "Part") (id := 167) (n := 1) (ix := []) ⟨g.m_Part, _, _, _, _, g.mk_Part, FnQ.toK q_Partu_initu, (RoomG.sub ((roomG_of hr).mono (by decide)) rfl), (passE (takes_of rfl rfl rfl rfl))⟩ (pa_cons (pv 2) pa_nil)))) pa_nil)))
    (pss_cons (ps_expr (pe_bm PySem.F.plainAttrs_list PySem.F.slot_list_append PySem.F.type_list_append mt_append (pv 4) (pa_cons (pe_hear (k := 5) F__law_heard m__law_heard b__law_heard sc__law_heard rfl (Or.inl rfl) (fun cdg => hear__law_heard g (hr.mono (by decide))) TB hcode (List.mem_of_getElem? (i := 0) rfl) (tabs_un (a := ((He.cT K ("_law_refused_right", none)).2, ("_law_refused_right" : Str) ++ ".<locals>." ++ "<lambda>")) (List.mem_of_getElem? (i := 0) rfl) hnd) (hr.rm.mono (by decide)) (LamX.lamS_by (sc := defScope s__law_refused_right) (by decide +kernel)) (fun A outer s H E f c' hr => (pe_mkK0 (sp := (fun id => spE K mg (tabs K) (F__law_refused_right id))) (cn := "Part") (id := 167) (ks := ["name"]) (ix := [0]) ⟨g.m_Part, _, _, _, _, g.mk_Part, kq_Partu_initu_0_name, (RoomG.sub ((roomG_of hr).mono (by decide)) rfl), (passE (takes_of rfl rfl rfl rfl))⟩ (pk_cons (pv 2) pk_nil)))) pa_nil)))
    (pss_cons (ps_expr (pe_bm PySem.F.plainAttrs_list PySem.F.slot_list_append PySem.F.type_list_append mt_append (pv 4) (pa_cons (pe_hear (k := 5) F__law_heard m__law_heard b__law_heard sc__law_heard rfl (Or.inl rfl) (fun cdg => hear__law_heard g (hr.mono (by decide))) TB hcode (List.mem_of_getElem? (i := 0) rfl) (tabs_un (a := ((He.cT K ("_law_refused_right", none)).2, ("_law_refused_right" : Str) ++ ".<locals>." ++ "<lambda>")) (List.mem_of_getElem? (i := 0) rfl) hnd) (hr.rm.mono (by decide)) (LamX.lamS_by (sc := defScope s__law_refused_right) (by decide +kernel)) (fun A outer s H E f c' hr => (pe_mk (sp := (fun id => spE K mg (tabs K) (F__law_refused_right id))) (cn := "Tool") (id := 170) (n := 2) (ix := []) ⟨g.m_Tool, _, _, _, _, g.mk_Tool, FnQ.toK q_Toolu_initu, (RoomG.sub ((roomG_of hr).mono (by decide)) rfl), (passE (takes_of rfl rfl rfl rfl))⟩ (pa_cons (pv 2) (pa_cons (pv 3) pa_nil))))) pa_nil)))
    (pss_cons (ps_expr (pe_bm PySem.F.plainAttrs_list PySem.F.slot_list_append PySem.F.type_list_append mt_append (pv 4) (pa_cons (pe_hear (k := 5) F__law_heard m__law_heard b__law_heard sc__law_heard rfl (Or.inl rfl) (fun cdg => hear__law_heard g (hr.mono (by decide))) TB hcode (List.mem_of_getElem? (i := 0) rfl) (tabs_un (a := ((He.cT K ("_law_refused_right", none)).2, ("_law_refused_right" : Str) ++ ".<locals>." ++ "<lambda>")) (List.mem_of_getElem? (i := 0) rfl) hnd) (hr.rm.mono (by decide)) (LamX.lamS_by (sc := defScope s__law_refused_right) (by decide +kernel)) (fun A outer s H E f c' hr => (pe_mkK0 (sp := (fun id => spE K mg (tabs K) (F__law_refused_right id))) (cn := "Tool") (id := 170) (ks := ["width", "name"]) (ix := [1, 0]) ⟨g.m_Tool, _, _, _, _, g.mk_Tool, kq_Toolu_initu_0_width_name, (RoomG.sub ((roomG_of hr).mono (by decide)) rfl), (passE (takes_of rfl rfl rfl rfl))⟩ (pk_cons pe_int (pk_cons (pv 2) pk_nil))))) pa_nil)))
    (pss_cons (ps_if (pt_cmpR (o_ne hr.rm.units) (pv 4) (pe_op o_mulX (pe_lst (pa_cons (pe_tup (pa_cons pe_str (pa_cons (pe_callB (b_repr hr) rfl g.n_repr (by decide +kernel) (pa_cons (pv 2) pa_nil)) pa_nil))) pa_nil)) pe_int) (nomark _)) (pss_one (ps_ret pe_bl)) pss_nil)
    (pss_cons (ps_set (i := 4) sc__law_refused_right.nd rfl (Or.inl rfl) (pe_lst (pa_cons (pe_hear (k := 5) F__law_heard m__law_heard b__law_heard sc__law_heard rfl (Or.inl rfl) (fun cdg => hear__law_heard g (hr.mono (by decide))) TB hcode (List.mem_of_getElem? (i := 0) rfl) (tabs_un (a := ((He.cT K ("_law_refused_right", none)).2, ("_law_refused_right" : Str) ++ ".<locals>." ++ "<lambda>")) (List.mem_of_getElem? (i := 0) rfl) hnd) (hr.rm.mono (by decide)) (LamX.lamS_by (sc := defScope s__law_refused_right) (by decide +kernel)) (fun A outer s H E f c' hr => (pe_mk (sp := (fun id => spE K mg (tabs K) (F__law_refused_right id))) (cn := "Tool") (id := 170) (n := 2) (ix := []) ⟨g.m_Tool, _, _, _, _, g.mk_Tool, FnQ.toK q_Toolu_initu, (RoomG.sub ((roomG_of hr).mono (by decide)) rfl), (passE (takes_of rfl rfl rfl rfl))⟩ (pa_cons (pv 1) (pa_cons (pv 3) pa_nil))))) pa_nil)))
    (pss_cons (ps_expr (pe_bm PySem.F.plainAttrs_list PySem.F.slot_list_append PySem.F.type_list_append mt_append (pv 4) (pa_cons (pe_hear (k := 5) F__law_heard m__law_heard b__law_heard sc__law_heard rfl (Or.inl rfl) (fun cdg => hear__law_heard g (hr.mono (by decide))) TB hcode (List.mem_of_getElem? (i := 0) rfl) (tabs_un (a := ((He.cT K ("_law_refused_right", none)).2, ("_law_refused_right" : Str) ++ ".<locals>." ++ "<lambda>")) (List.mem_of_getElem? (i := 0) rfl) hnd) (hr.rm.mono (by decide)) (LamX.lamS_by (sc := defScope s__law_refused_right) (by decide +kernel)) (fun A outer s H E f c' hr => (pe_mkK0 (sp := (fun id => spE K mg (tabs K) (F__law_refused_right id))) (cn := "Tool") (id := 170) (ks := ["width", "name"]) (ix := [1, 0]) ⟨g.m_Tool, _, _, _, _, g.mk_Tool, kq_Toolu_initu_0_width_name, (RoomG.sub ((roomG_of hr).mono (by decide)) rfl), (passE (takes_of rfl rfl rfl rfl))⟩ (pk_cons (pv 3) (pk_cons (pv 1) pk_nil))))) pa_nil)))
    (pss_one (ps_ret (pe_cmpR (o_eq hr.rm.units) (pv 4) (pe_op o_mulX (pe_lst (pa_cons (pe_tup (pa_cons pe_str (pa_cons pe_str pa_nil))) pa_nil)) pe_int) (nomark _)))))))))))))
theorem ok__law_refused_right (g : Glb P K mg) (F : Fd K "_law_refused_right" "_law_refused_right" s__law_refused_right f fd) {fh : Addr} {fdh : FuncData} (F__law_heard : Fd K "_law_heard" "_law_heard" s__law_heard fh fdh) (m__law_heard : mg "_law_heard" = some (.ref fh)) (b__law_heard : Binds K fdh ["_law_ask"] []) (TB : LamX.TabB base mg (He.cT K ("_law_refused_right", none)).1 (He.cT K ("_law_refused_right", none)).2) (hnd : ((tabs K).map (·.1)).Nodup) (hf : He.fAd K ("_law_refused_right", none) = f) (c__law_odd_label : Cal false P w K mg base CX0 3 s__law_odd_label "_law_odd_label" ["_law_pen_here"] (spE K mg (tabs K) e__law_odd_label)) (c__law_label : Cal false P w K mg base CX0 3 s__law_label "_law_label" ["_law_pen_here"] (spE K mg (tabs K) e__law_label)) (c__law_pick : Cal false P w K mg base CX0 2 s__law_pick "_law_pick" ["_law_pen_here", "_law_some"] (spE K mg (tabs K) e__law_pick)) (q_Partu_initu : FnQ false P w K mg base (L2.CX P w) 3 (He.ma K (He.ga K "Part") "__init__") (spE K mg (tabs K) e_Partu_initu)) (kq_Partu_initu_0_name : FnK false P w K mg base (L2.CX P w) 3 (He.ma K (He.ga K "Part") "__init__") 1 ["name"] [0] (spE K mg (tabs K) e_Partu_initu)) (q_Toolu_initu : FnQ false P w K mg base (L2.CX P w) 4 (He.ma K (He.ga K "Tool") "__init__") (spE K mg (tabs K) e_Toolu_initu)) (kq_Toolu_initu_0_width_name : FnK false P w K mg base (L2.CX P w) 4 (He.ma K (He.ga K "Tool") "__init__") 1 ["width", "name"] [1, 0] (spE K mg (tabs K) e_Toolu_initu)) : FnG true P w K mg base CX0 9 f fd ["_law_pen_here"] (spE K mg (tabs K) e__law_refused_right) :=
  FnG.sealed <| okFm F sc__law_refused_right rfl rfl (tab_ok g) fun A outer s H E hr => by rw [td__law_refused_right (E := E0)]; exact d__law_refused_right g hr F__law_heard m__law_heard b__law_heard TB hnd (maker_code F (p := ("_law_refused_right", none)) hf) c__law_odd_label c__law_label c__law_pick q_Partu_initu kq_Partu_initu_0_name q_Toolu_initu kq_Toolu_initu_0_width_name
theorem cal__law_refused_right (g : Glb P K mg) (hm : mg "_law_refused_right" = some (.ref f)) (F : Fd K "_law_refused_right" "_law_refused_right" s__law_refused_right f fd) {fh : Addr} {fdh : FuncData} (F__law_heard : Fd K "_law_heard" "_law_heard" s__law_heard fh fdh) (m__law_heard : mg "_law_heard" = some (.ref fh)) (b__law_heard : Binds K fdh ["_law_ask"] []) (TB : LamX.TabB base mg (He.cT K ("_law_refused_right", none)).1 (He.cT K ("_law_refused_right", none)).2) (hnd : ((tabs K).map (·.1)).Nodup) (hf : He.fAd K ("_law_refused_right", none) = f) (c__law_odd_label : Cal false P w K mg base CX0 3 s__law_odd_label "_law_odd_label" ["_law_pen_here"] (spE K mg (tabs K) e__law_odd_label)) (c__law_label : Cal false P w K mg base CX0 3 s__law_label "_law_label" ["_law_pen_here"] (spE K mg (tabs K) e__law_label)) (c__law_pick : Cal false P w K mg base CX0 2 s__law_pick "_law_pick" ["_law_pen_here", "_law_some"] (spE K mg (tabs K) e__law_pick)) (q_Partu_initu : FnQ false P w K mg base (L2.CX P w) 3 (He.ma K (He.ga K "Part") "__init__") (spE K mg (tabs K) e_Partu_initu)) (kq_Partu_initu_0_name : FnK false P w K mg base (L2.CX P w) 3 (He.ma K (He.ga K "Part") "__init__") 1 ["name"] [0] (spE K mg (tabs K) e_Partu_initu)) (q_Toolu_initu : FnQ false P w K mg base (L2.CX P w) 4 (He.ma K (He.ga K "Tool") "__init__") (spE K mg (tabs K) e_Toolu_initu)) (kq_Toolu_initu_0_width_name : FnK false P w K mg base (L2.CX P w) 4 (He.ma K (He.ga K "Tool") "__init__") 1 ["width", "name"] [1, 0] (spE K mg (tabs K) e_Toolu_initu)) : Cal true P w K mg base CX0 9 s__law_refused_right "_law_refused_right" ["_law_pen_here"] (spE K mg (tabs K) e__law_refused_right) :=
  ⟨f, fd, hm, F, F.bindsN fun _ _ _ _ _ _ us hl => match us, hl with | [_], _ => rfl, ok__law_refused_right g F F__law_heard m__law_heard b__law_heard TB hnd hf c__law_odd_label c__law_label c__law_pick q_Partu_initu kq_Partu_initu_0_name q_Toolu_initu kq_Toolu_initu_0_width_name⟩
theorem td_law {T : List (Addr × Str)} : denS tm_law (dnF K mg T E0 F_law) = r_law K mg T := rfl
theorem d_law {cdv : Value} {A : Around} {outer : List Env} {s : Shared} {H : Hp} {E : XK} (g : Glb P K mg) (hr : RoomG true 9 (A.deeper (envOfC "law" (defScope s_law) s.heap.objs.size f cdv))) (c__law_pen : Cal false P w K mg base CX0 1 s__law_pen "_law_pen" ["_law_script"] (spPen K (tabs K))) (c__law_pick : Cal false P w K mg base CX0 2 s__law_pick "_law_pick" ["_law_pen_here", "_law_some"] (spE K mg (tabs K) e__law_pick)) (c__law_draw : Cal false P w K mg base CX0 1 s__law_draw "_law_draw" ["_law_pen_here", "_law_many"] (spE K mg (tabs K) drawF)) (c__law_label : Cal false P w K mg base CX0 3 s__law_label "_law_label" ["_law_pen_here"] (spE K mg (tabs K) e__law_label)) (kq_Toolu_initu_0_width_name : FnK false P w K mg base (L2.CX P w) 4 (He.ma K (He.ga K "Tool") "__init__") 1 ["width", "name"] [1, 0] (spE K mg (tabs K) e_Toolu_initu)) (q_Toolu_initu : FnQ false P w K mg base (L2.CX P w) 4 (He.ma K (He.ga K "Tool") "__init__") (spE K mg (tabs K) e_Toolu_initu)) (q_Part_cells : FnQ false P w K mg base CX0 1 (He.ma K (He.ga K "Part") "cells") (spE K mg (tabs K) e_Part_cells)) (q_Tool_cells : FnQ false P w K mg base CX0 2 (He.ma K (He.ga K "Tool") "cells") (spE K mg (tabs K) e_Tool_cells)) (q_Fork_cells : FnQ false P w K mg base CX0 3 (He.ma K (He.ga K "Fork") "cells") (spE K mg (tabs K) e_Fork_cells)) (q_Partu_equ : FnQ false P w K mg base CX0 1 (He.ma K (He.ga K "Part") "__eq__") (spE K mg (tabs K) e_Partu_equ)) (q_Toolu_equ : FnQ false P w K mg base CX0 1 (He.ma K (He.ga K "Tool") "__eq__") (spE K mg (tabs K) e_Toolu_equ)) (q_Forku_equ : FnQ false P w K mg base CX0 3 (He.ma K (He.ga K "Fork") "__eq__") (spE K mg (tabs K) e_Forku_equ)) (q_Partu_initu : FnQ false P w K mg base (L2.CX P w) 3 (He.ma K (He.ga K "Part") "__init__") (spE K mg (tabs K) e_Partu_initu)) (q_Forku_initu : FnQ false P w K mg base (L2.CX P w) 4 (He.ma K (He.ga K "Fork") "__init__") (spE K mg (tabs K) e_Forku_initu)) (c__law_refused_right : Cal true P w K mg base CX0 9 s__law_refused_right "_law_refused_right" ["_law_pen_here"] (spE K mg (tabs K) e__law_refused_right)) :
    PSs (cxOf CX0 P w K mg base N_law "law" (defScope s_law) f cdv A outer s H E).nox (defBody s_law) (t_law K mg (tabs K)) :=
  (pss_cons (ps_set (i := 1) sc_law.nd rfl (Or.inl rfl) (pe_cal c__law_pen hr pass0 (pa_cons (pv 0) pa_nil)))
    (pss_cons (ps_for PassesOwn.never rfl (pi_range1 rfl g.n_range (pa_cons pe_int pa_nil)) (pg_name (i := 2) sc_law.nd rfl (Or.inl rfl)) (pss_cons (ps_par (by rfl) sc_law.nd (i := 3) (j := 4) rfl rfl (by decide) rfl rfl (pa_cons (pe_cal c__law_label hr pass0 (pa_cons (pv 1) pa_nil)) (pa_cons (pe_cal c__law_pick hr pass0 (pa_cons (pv 1) (pa_cons (pe_lst (pa_cons pe_int (pa_cons pe_int (pa_cons pe_int (pa_cons (pe_op o_add pe_int (pe_cal c__law_draw hr pass0 (pa_cons (pv 1) (pa_cons pe_int pa_nil)))) pa_nil))))) pa_nil))) pa_nil)) (by rfl))
    (pss_cons (ps_asg (pe_tup (pa_cons (pe_mk (sp := (fun id => spE K mg (tabs K) (F_law id))) (cn := "Tool") (id := 170) (n := 2) (ix := []) ⟨g.m_Tool, _, _, _, _, g.mk_Tool, FnQ.toK q_Toolu_initu, (RoomG.sub (hr.mono (by decide)) rfl), passX0⟩ (pa_cons (pv 3) (pa_cons (pv 4) pa_nil))) (pa_cons (pe_mkK0 (sp := (fun id => spE K mg (tabs K) (F_law id))) (cn := "Tool") (id := 170) (ks := ["width", "name"]) (ix := [1, 0]) ⟨g.m_Tool, _, _, _, _, g.mk_Tool, kq_Toolu_initu_0_width_name, (RoomG.sub (hr.mono (by decide)) rfl), passX0⟩ (pk_cons (pv 4) (pk_cons (pv 3) pk_nil))) pa_nil))) (pg_tup rfl (pgs_cons (pg_name (i := 5) sc_law.nd rfl (Or.inr rfl)) (pgs_cons (pg_name (i := 6) sc_law.nd rfl (Or.inl rfl)) pgs_nil))))
    (pss_cons (ps_if (pt_cmpR (o_ne hr.rm.units) (pe_callB (b_repr hr) rfl g.n_repr (by decide +kernel) (pa_cons (pe_lst (pa_cons (pe_at (sp := (fun id => spE K mg (tabs K) (F_law id))) (cs := [("Part", .fld), ("Tool", .fld), ("Fork", .fld)]) (pv 5) (al_cons ⟨g.cls_Part, g.noat_Part_name⟩ (al_cons ⟨g.cls_Tool, g.noat_Tool_name⟩ (al_cons ⟨g.cls_Fork, g.noat_Fork_name⟩ al_nil)))) (pa_cons (pe_at (sp := (fun id => spE K mg (tabs K) (F_law id))) (cs := [("Tool", .fld)]) (pv 5) (al_cons ⟨g.cls_Tool, g.noat_Tool_width⟩ al_nil)) (pa_cons (pe_me0 (sp := (fun id => spE K mg (tabs K) (F_law id))) (cs := [("Part", 168), ("Tool", 171), ("Fork", 178)]) (pv 5) (al_cons ⟨g.cls_Part, _, _, _, _, g.meth_Part_cells, q_Part_cells, (RoomG.sub (hr.mono (by decide)) rfl), pass0⟩ (al_cons ⟨g.cls_Tool, _, _, _, _, g.meth_Tool_cells, q_Tool_cells, (RoomG.sub (hr.mono (by decide)) rfl), pass0⟩ (al_cons ⟨g.cls_Fork, _, _, _, _, g.meth_Fork_cells, q_Fork_cells, (RoomG.sub (hr.mono (by decide)) rfl), pass0⟩ al_nil)))) (pa_cons (pe_at (sp := (fun id => spE K mg (tabs K) (F_law id))) (cs := [("Part", .str "part"), ("Tool", .str "tool"), ("Fork", .str "fork")]) (pv 5) (al_cons ⟨g.cls_Part, g.con_Part_KIND⟩ (al_cons ⟨g.cls_Tool, g.con_Tool_KIND⟩ (al_cons ⟨g.cls_Fork, g.con_Fork_KIND⟩ al_nil)))) pa_nil))))) pa_nil)) (pe_callB (b_repr hr) rfl g.n_repr (by decide +kernel) (pa_cons (pe_lst (pa_cons (pv 3) (pa_cons (pv 4) (pa_cons (pv 4) (pa_cons pe_str pa_nil))))) pa_nil)) (nomark _)) (pss_one (ps_ret pe_bl)) pss_nil)
    (pss_cons (ps_if (PW.pt (pw_or (pt_not (pt_cmpR (o_eqA (c := 0) (al_cons ⟨_, _, _, g.eq_Part.eq, g.eq_Part.fn, g.eq_Part.ne, g.eq_Part.mro, q_Partu_equ, (RoomG.sub (hr.mono (by decide)) rfl)⟩ (al_cons ⟨_, _, _, g.eq_Tool.eq, g.eq_Tool.fn, g.eq_Tool.ne, g.eq_Tool.mro, q_Toolu_equ, (RoomG.sub (hr.mono (by decide)) rfl)⟩ (al_cons ⟨_, _, _, g.eq_Fork.eq, g.eq_Fork.fn, g.eq_Fork.ne, g.eq_Fork.mro, q_Forku_equ, (RoomG.sub (hr.mono (by decide)) rfl)⟩ al_nil))) (o_eq hr.rm.units)) (pv 5) (pv 6) (nomark _))) (pw_or (pt_cmpR (o_neA (c := 0) (al_cons ⟨_, _, _, g.eq_Part.eq, g.eq_Part.fn, g.eq_Part.ne, g.eq_Part.mro, q_Partu_equ, (RoomG.sub (hr.mono (by decide)) rfl)⟩ (al_cons ⟨_, _, _, g.eq_Tool.eq, g.eq_Tool.fn, g.eq_Tool.ne, g.eq_Tool.mro, q_Toolu_equ, (RoomG.sub (hr.mono (by decide)) rfl)⟩ (al_cons ⟨_, _, _, g.eq_Fork.eq, g.eq_Fork.fn, g.eq_Fork.ne, g.eq_Fork.mro, q_Forku_equ, (RoomG.sub (hr.mono (by decide)) rfl)⟩ al_nil))) (o_ne hr.rm.units)) (pv 5) (pv 6) (nomark _)) (pw_or1 (pt_not (pt_tr (pe_callB call_isi rfl g.n_isinstance (by decide +kernel) (pa_cons (pv 5) (pa_cons (pe_glob rfl g.m_Part rfl) pa_nil))))))))) (pss_one (ps_ret pe_bl)) pss_nil)
    (pss_cons (ps_set (i := 7) sc_law.nd rfl (Or.inl rfl) (pe_lst (pa_cons (pe_mk (sp := (fun id => spE K mg (tabs K) (F_law id))) (cn := "Tool") (id := 170) (n := 2) (ix := []) ⟨g.m_Tool, _, _, _, _, g.mk_Tool, FnQ.toK q_Toolu_initu, (RoomG.sub (hr.mono (by decide)) rfl), passX0⟩ (pa_cons (pv 3) (pa_cons (pe_ifExp (pt_cmpR (o_ltX hr.rm.units0) (pv 4) pe_int (nomark _)) (pe_op o_add (pv 4) pe_int) pe_int) pa_nil))) (pa_cons (pe_mk (sp := (fun id => spE K mg (tabs K) (F_law id))) (cn := "Tool") (id := 170) (n := 2) (ix := []) ⟨g.m_Tool, _, _, _, _, g.mk_Tool, FnQ.toK q_Toolu_initu, (RoomG.sub (hr.mono (by decide)) rfl), passX0⟩ (pa_cons (pe_op o_add pe_str (pe_slice sl_any (pv 3) po_none (po_some pe_int))) (pa_cons (pv 4) pa_nil))) (pa_cons (pe_mk (sp := (fun id => spE K mg (tabs K) (F_law id))) (cn := "Part") (id := 167) (n := 1) (ix := []) ⟨g.m_Part, _, _, _, _, g.mk_Part, FnQ.toK q_Partu_initu, (RoomG.sub (hr.mono (by decide)) rfl), passX0⟩ (pa_cons (pv 3) pa_nil)) pa_nil)))))
    (pss_cons (ps_set (i := 7) sc_law.nd rfl (Or.inl rfl) (pe_op o_add (pv 7) (pe_lst (pa_cons (pv 3) (pa_cons (pv 4) (pa_cons pe_non (pa_cons (pe_tup (pa_cons (pv 3) (pa_cons (pv 4) pa_nil))) (pa_cons (pe_mk (sp := (fun id => spE K mg (tabs K) (F_law id))) (cn := "Fork") (id := 176) (n := 2) (ix := []) ⟨g.m_Fork, _, _, _, _, g.mk_Fork, FnQ.toK q_Forku_initu, (RoomG.sub (hr.mono (by decide)) rfl), passX0⟩ (pa_cons (pv 3) (pa_cons (pe_lst (pa_cons (pe_mk (sp := (fun id => spE K mg (tabs K) (F_law id))) (cn := "Tool") (id := 170) (n := 2) (ix := []) ⟨g.m_Tool, _, _, _, _, g.mk_Tool, FnQ.toK q_Toolu_initu, (RoomG.sub (hr.mono (by decide)) rfl), passX0⟩ (pa_cons pe_str (pa_cons (pv 4) pa_nil))) pa_nil)) pa_nil))) pa_nil))))))))
    (pss_cons (ps_if (pt_cmpR (o_ne hr.rm.units) (pe_lc (own := [("_law_mate", 8)]) (g := (gName 8)) (tt := (tOr (tTest (tOp (rEqA K (fun id => spE K mg (tabs K) (F_law id)) false [("Part", 169), ("Tool", 172), ("Fork", 180)]) (tVar 5) (tVar 8))) (tNot (tTest (tOp (rEqA K (fun id => spE K mg (tabs K) (F_law id)) true [("Part", 169), ("Tool", 172), ("Fork", 180)]) (tVar 5) (tVar 8)))))) (te := (tVar 8)) rfl sc_law.nd (pi_sq (pv 7)) (blkOk_by (own := [("_law_mate", 8)]) (N := N_law) (sc := defScope s_law) (by decide +kernel)) (fun _ _ _ _ _ => (pg_name (i := 8) sc_law.nd rfl (Or.inl rfl))) (fun _ _ _ _ _ => pts_one (PW.pt (pw_or (pt_cmpR (o_eqA (c := 0) (al_cons ⟨_, _, _, g.eq_Part.eq, g.eq_Part.fn, g.eq_Part.ne, g.eq_Part.mro, q_Partu_equ, (RoomG.sub (hr.mono (by decide)) rfl)⟩ (al_cons ⟨_, _, _, g.eq_Tool.eq, g.eq_Tool.fn, g.eq_Tool.ne, g.eq_Tool.mro, q_Toolu_equ, (RoomG.sub (hr.mono (by decide)) rfl)⟩ (al_cons ⟨_, _, _, g.eq_Fork.eq, g.eq_Fork.fn, g.eq_Fork.ne, g.eq_Fork.mro, q_Forku_equ, (RoomG.sub (hr.mono (by decide)) rfl)⟩ al_nil))) (o_eq hr.rm.units)) (pv 5) (pv 8) (nomark _)) (pw_or1 (pt_not (pt_cmpR (o_neA (c := 0) (al_cons ⟨_, _, _, g.eq_Part.eq, g.eq_Part.fn, g.eq_Part.ne, g.eq_Part.mro, q_Partu_equ, (RoomG.sub (hr.mono (by decide)) rfl)⟩ (al_cons ⟨_, _, _, g.eq_Tool.eq, g.eq_Tool.fn, g.eq_Tool.ne, g.eq_Tool.mro, q_Toolu_equ, (RoomG.sub (hr.mono (by decide)) rfl)⟩ (al_cons ⟨_, _, _, g.eq_Fork.eq, g.eq_Fork.fn, g.eq_Fork.ne, g.eq_Fork.mro, q_Forku_equ, (RoomG.sub (hr.mono (by decide)) rfl)⟩ al_nil))) (o_ne hr.rm.units)) (pv 5) (pv 8) (nomark _))))))) (fun _ _ _ _ _ => (pv 8))) (pe_lst pa_nil) (nomark _)) (pss_one (ps_ret pe_bl)) pss_nil)
    (pss_cons (ps_set (i := 9) sc_law.nd rfl (Or.inr rfl) (pe_mk (sp := (fun id => spE K mg (tabs K) (F_law id))) (cn := "Part") (id := 167) (n := 1) (ix := []) ⟨g.m_Part, _, _, _, _, g.mk_Part, FnQ.toK q_Partu_initu, (RoomG.sub (hr.mono (by decide)) rfl), passX0⟩ (pa_cons (pv 3) pa_nil)))
    (pss_cons (ps_if (pt_cmpR (o_ne hr.rm.units) (pe_callB (b_repr hr) rfl g.n_repr (by decide +kernel) (pa_cons (pe_lst (pa_cons (pe_at (sp := (fun id => spE K mg (tabs K) (F_law id))) (cs := [("Part", .fld), ("Tool", .fld), ("Fork", .fld)]) (pv 9) (al_cons ⟨g.cls_Part, g.noat_Part_name⟩ (al_cons ⟨g.cls_Tool, g.noat_Tool_name⟩ (al_cons ⟨g.cls_Fork, g.noat_Fork_name⟩ al_nil)))) (pa_cons (pe_me0 (sp := (fun id => spE K mg (tabs K) (F_law id))) (cs := [("Part", 168), ("Tool", 171), ("Fork", 178)]) (pv 9) (al_cons ⟨g.cls_Part, _, _, _, _, g.meth_Part_cells, q_Part_cells, (RoomG.sub (hr.mono (by decide)) rfl), pass0⟩ (al_cons ⟨g.cls_Tool, _, _, _, _, g.meth_Tool_cells, q_Tool_cells, (RoomG.sub (hr.mono (by decide)) rfl), pass0⟩ (al_cons ⟨g.cls_Fork, _, _, _, _, g.meth_Fork_cells, q_Fork_cells, (RoomG.sub (hr.mono (by decide)) rfl), pass0⟩ al_nil)))) (pa_cons (pe_at (sp := (fun id => spE K mg (tabs K) (F_law id))) (cs := [("Part", .str "part"), ("Tool", .str "tool"), ("Fork", .str "fork")]) (pv 9) (al_cons ⟨g.cls_Part, g.con_Part_KIND⟩ (al_cons ⟨g.cls_Tool, g.con_Tool_KIND⟩ (al_cons ⟨g.cls_Fork, g.con_Fork_KIND⟩ al_nil)))) pa_nil)))) pa_nil)) (pe_callB (b_repr hr) rfl g.n_repr (by decide +kernel) (pa_cons (pe_lst (pa_cons (pv 3) (pa_cons pe_int (pa_cons pe_str pa_nil)))) pa_nil)) (nomark _)) (pss_one (ps_ret pe_bl)) pss_nil)
    (pss_cons (ps_if (pt_cmpR (o_ne hr.rm.units) (pe_lc (own := [("_law_mate", 8)]) (g := (gName 8)) (tt := (tOr (tTest (tOp (rEqA K (fun id => spE K mg (tabs K) (F_law id)) false [("Part", 169), ("Tool", 172), ("Fork", 180)]) (tVar 9) (tVar 8))) (tNot (tTest (tOp (rEqA K (fun id => spE K mg (tabs K) (F_law id)) true [("Part", 169), ("Tool", 172), ("Fork", 180)]) (tVar 9) (tVar 8)))))) (te := (tVar 8)) rfl sc_law.nd (pi_sq (pe_op o_add (pv 7) (pe_lst (pa_cons (pv 5) (pa_cons (pv 9) (pa_cons (pe_mk (sp := (fun id => spE K mg (tabs K) (F_law id))) (cn := "Part") (id := 167) (n := 1) (ix := []) ⟨g.m_Part, _, _, _, _, g.mk_Part, FnQ.toK q_Partu_initu, (RoomG.sub (hr.mono (by decide)) rfl), passX0⟩ (pa_cons (pv 3) pa_nil)) pa_nil)))))) (blkOk_by (own := [("_law_mate", 8)]) (N := N_law) (sc := defScope s_law) (by decide +kernel)) (fun _ _ _ _ _ => (pg_name (i := 8) sc_law.nd rfl (Or.inl rfl))) (fun _ _ _ _ _ => pts_one (PW.pt (pw_or (pt_cmpR (o_eqA (c := 0) (al_cons ⟨_, _, _, g.eq_Part.eq, g.eq_Part.fn, g.eq_Part.ne, g.eq_Part.mro, q_Partu_equ, (RoomG.sub (hr.mono (by decide)) rfl)⟩ (al_cons ⟨_, _, _, g.eq_Tool.eq, g.eq_Tool.fn, g.eq_Tool.ne, g.eq_Tool.mro, q_Toolu_equ, (RoomG.sub (hr.mono (by decide)) rfl)⟩ (al_cons ⟨_, _, _, g.eq_Fork.eq, g.eq_Fork.fn, g.eq_Fork.ne, g.eq_Fork.mro, q_Forku_equ, (RoomG.sub (hr.mono (by decide)) rfl)⟩ al_nil))) (o_eq hr.rm.units)) (pv 9) (pv 8) (nomark _)) (pw_or1 (pt_not (pt_cmpR (o_neA (c := 0) (al_cons ⟨_, _, _, g.eq_Part.eq, g.eq_Part.fn, g.eq_Part.ne, g.eq_Part.mro, q_Partu_equ, (RoomG.sub (hr.mono (by decide)) rfl)⟩ (al_cons ⟨_, _, _, g.eq_Tool.eq, g.eq_Tool.fn, g.eq_Tool.ne, g.eq_Tool.mro, q_Toolu_equ, (RoomG.sub (hr.mono (by decide)) rfl)⟩ (al_cons ⟨_, _, _, g.eq_Fork.eq, g.eq_Fork.fn, g.eq_Fork.ne, g.eq_Fork.mro, q_Forku_equ, (RoomG.sub (hr.mono (by decide)) rfl)⟩ al_nil))) (o_ne hr.rm.units)) (pv 9) (pv 8) (nomark _))))))) (fun _ _ _ _ _ => (pv 8))) (pe_lst pa_nil) (nomark _)) (pss_one (ps_ret pe_bl)) pss_nil)
    (pss_one (ps_if (pt_not (pt_tr (pe_cal c__law_refused_right hr pass0 (pa_cons (pv 1) pa_nil)))) (pss_one (ps_ret pe_bl)) pss_nil)))))))))))))
    (pss_cons (ps_set (i := 10) sc_law.nd rfl (Or.inl rfl) (pe_lst (pa_cons (pe_cvC (C := "Part") (pe_glob rfl g.m_Part rfl) g.cv_Part_KIND) (pa_cons (pe_cvC (C := "Tool") (pe_glob rfl g.m_Tool rfl) g.cv_Tool_KIND) (pa_cons (pe_cvC (C := "Fork") (pe_glob rfl g.m_Fork rfl) g.cv_Fork_KIND) (pa_cons (pe_cvC (C := "Door") (pe_glob rfl g.m_Door rfl) g.cv_Door_KIND) pa_nil))))))
    (pss_one (ps_ret (pe_andT (pe_cmpR (o_eq hr.rm.units) (pv 10) (pe_lst (pa_cons pe_str (pa_cons pe_str (pa_cons pe_str (pa_cons pe_str pa_nil))))) (nomark _)) (pe_one (pe_cmpR (o_eq hr.rm.units) (pe_callB (b_repr hr) rfl g.n_repr (by decide +kernel) (pa_cons (pe_lst (pa_cons (pe_cvC (C := "Tool") (pe_glob rfl g.m_Tool rfl) g.cv_Tool_MOST) (pa_cons (pe_cvC (C := "Fork") (pe_glob rfl g.m_Fork rfl) g.cv_Fork_MOST) pa_nil))) pa_nil)) pe_str (nomark _)))))))))
theorem ok_law (g : Glb P K mg) (F : Fd K "law" "law" s_law f fd) (c__law_pen : Cal false P w K mg base CX0 1 s__law_pen "_law_pen" ["_law_script"] (spPen K (tabs K))) (c__law_pick : Cal false P w K mg base CX0 2 s__law_pick "_law_pick" ["_law_pen_here", "_law_some"] (spE K mg (tabs K) e__law_pick)) (c__law_draw : Cal false P w K mg base CX0 1 s__law_draw "_law_draw" ["_law_pen_here", "_law_many"] (spE K mg (tabs K) drawF)) (c__law_label : Cal false P w K mg base CX0 3 s__law_label "_law_label" ["_law_pen_here"] (spE K mg (tabs K) e__law_label)) (kq_Toolu_initu_0_width_name : FnK false P w K mg base (L2.CX P w) 4 (He.ma K (He.ga K "Tool") "__init__") 1 ["width", "name"] [1, 0] (spE K mg (tabs K) e_Toolu_initu)) (q_Toolu_initu : FnQ false P w K mg base (L2.CX P w) 4 (He.ma K (He.ga K "Tool") "__init__") (spE K mg (tabs K) e_Toolu_initu)) (q_Part_cells : FnQ false P w K mg base CX0 1 (He.ma K (He.ga K "Part") "cells") (spE K mg (tabs K) e_Part_cells)) (q_Tool_cells : FnQ false P w K mg base CX0 2 (He.ma K (He.ga K "Tool") "cells") (spE K mg (tabs K) e_Tool_cells)) (q_Fork_cells : FnQ false P w K mg base CX0 3 (He.ma K (He.ga K "Fork") "cells") (spE K mg (tabs K) e_Fork_cells)) (q_Partu_equ : FnQ false P w K mg base CX0 1 (He.ma K (He.ga K "Part") "__eq__") (spE K mg (tabs K) e_Partu_equ)) (q_Toolu_equ : FnQ false P w K mg base CX0 1 (He.ma K (He.ga K "Tool") "__eq__") (spE K mg (tabs K) e_Toolu_equ)) (q_Forku_equ : FnQ false P w K mg base CX0 3 (He.ma K (He.ga K "Fork") "__eq__") (spE K mg (tabs K) e_Forku_equ)) (q_Partu_initu : FnQ false P w K mg base (L2.CX P w) 3 (He.ma K (He.ga K "Part") "__init__") (spE K mg (tabs K) e_Partu_initu)) (q_Forku_initu : FnQ false P w K mg base (L2.CX P w) 4 (He.ma K (He.ga K "Fork") "__init__") (spE K mg (tabs K) e_Forku_initu)) (c__law_refused_right : Cal true P w K mg base CX0 9 s__law_refused_right "_law_refused_right" ["_law_pen_here"] (spE K mg (tabs K) e__law_refused_right)) : FnG true P w K mg base CX0 10 f fd ["_law_script"] (spLaw K (tabs K)) :=
  okG0 F sc_law (fun vs H Q E h => by obtain ⟨_, _, rfl, _⟩ := h; rfl) fun cdv A outer s H vs Q E hr h => ⟨t_law K mg (tabs K), d_law g hr c__law_pen c__law_pick c__law_draw c__law_label kq_Toolu_initu_0_width_name q_Toolu_initu q_Part_cells q_Tool_cells q_Fork_cells q_Partu_equ q_Toolu_equ q_Forku_equ q_Partu_initu q_Forku_initu c__law_refused_right, law_body (mg := mg) (T := (tabs K)) (m := N_law.length - 2) rfl most_ok (fun c hK hm hT her hE => by rw [← td_law]; exact law_ws law_ev (tab_ok g) c hK hm hT her hE) h⟩
end
def dd__law_pen : He.DefD := ⟨("_law_pen", none), "_law_pen", "_law_pen", defArgs s__law_pen, defBody s__law_pen, defScope s__law_pen, [], []⟩
def dd__law_draw : He.DefD := ⟨("_law_draw", none), "_law_draw", "_law_draw", defArgs s__law_draw, defBody s__law_draw, defScope s__law_draw, [], []⟩
def dd__law_pick : He.DefD := ⟨("_law_pick", none), "_law_pick", "_law_pick", defArgs s__law_pick, defBody s__law_pick, defScope s__law_pick, [], []⟩
def dd__law_label : He.DefD := ⟨("_law_label", none), "_law_label", "_law_label", defArgs s__law_label, defBody s__law_label, defScope s__law_label, [], []⟩
def dd_is_simple : He.DefD := ⟨("is_simple", none), "is_simple", "is_simple", defArgs s_is_simple, defBody s_is_simple, defScope s_is_simple, [], []⟩
def dd_is_name : He.DefD := ⟨("is_name", none), "is_name", "is_name", defArgs s_is_name, defBody s_is_name, defScope s_is_name, [], []⟩
def dd_is_integer : He.DefD := ⟨("is_integer", none), "is_integer", "is_integer", defArgs s_is_integer, defBody s_is_integer, defScope s_is_integer, [], []⟩
def dd_is_between : He.DefD := ⟨("is_between", none), "is_between", "is_between", defArgs s_is_between, defBody s_is_between, defScope s_is_between, [], []⟩
def dd_number_width : He.DefD := ⟨("number_width", none), "number_width", "number_width", defArgs s_number_width, defBody s_number_width, defScope s_number_width, [], []⟩
def dd_is_line : He.DefD := ⟨("is_line", none), "is_line", "is_line", defArgs s_is_line, defBody s_is_line, defScope s_is_line, [], []⟩
def dd__law_odd_label : He.DefD := ⟨("_law_odd_label", none), "_law_odd_label", "_law_odd_label", defArgs s__law_odd_label, defBody s__law_odd_label, defScope s__law_odd_label, [], []⟩
def dd__law_heard : He.DefD := ⟨("_law_heard", none), "_law_heard", "_law_heard", defArgs s__law_heard, defBody s__law_heard, defScope s__law_heard, [], []⟩
def dd__law_refused_right : He.DefD := ⟨("_law_refused_right", none), "_law_refused_right", "_law_refused_right", defArgs s__law_refused_right, defBody s__law_refused_right, defScope s__law_refused_right, [], []⟩
def dd_law : He.DefD := ⟨("law", none), "law", "law", defArgs s_law, defBody s_law, defScope s_law, [], []⟩
def dd_Partu_initu : He.DefD := ⟨("Part", some "__init__"), "__init__", "Part.__init__", defArgs s_Partu_initu, defBody s_Partu_initu, defScope s_Partu_initu, [], []⟩
def dd_Part_cells : He.DefD := ⟨("Part", some "cells"), "cells", "Part.cells", defArgs s_Part_cells, defBody s_Part_cells, defScope s_Part_cells, [], []⟩
def dd_Partu_equ : He.DefD := ⟨("Part", some "__eq__"), "__eq__", "Part.__eq__", defArgs s_Partu_equ, defBody s_Partu_equ, defScope s_Partu_equ, [], []⟩
def dd_Toolu_equ : He.DefD := ⟨("Tool", some "__eq__"), "__eq__", "Tool.__eq__", defArgs s_Toolu_equ, defBody s_Toolu_equ, defScope s_Toolu_equ, [], []⟩
def dd_Forku_equ : He.DefD := ⟨("Fork", some "__eq__"), "__eq__", "Fork.__eq__", defArgs s_Forku_equ, defBody s_Forku_equ, defScope s_Forku_equ, [], []⟩
def fnL : List He.DefD := [dd__law_pen, dd__law_draw, dd__law_pick, dd__law_label, dd_is_simple, dd_is_name, dd_is_integer, dd_is_between, dd_number_width, dd_is_line, dd__law_odd_label, dd__law_heard, dd__law_refused_right, dd_law, dd_Partu_initu, dd_Part_cells, dd_Partu_equ, dd_Toolu_equ, dd_Forku_equ]
def faL : List He.Fa := [.glo "_law_pen", .glo "_law_draw", .glo "_law_pick", .glo "_law_label", .glo "is_simple", .glo "is_name", .glo "is_integer", .glo "is_between", .glo "number_width", .glo "is_line", .glo "_law_odd_label", .glo "_law_heard", .glo "_law_refused_right", .glo "law", .free "abs", .free "all", .free "bool", .free "int", .free "isinstance", .free "len", .free "list", .free "range", .free "repr", .free "str", .free "tuple", .str "LETTERS" "abcdefghijklmnopqrstuvwxyz", .int "MOST_LETTERS" 8, .int "MOST_WORDS" 4, .str "POINT" ".", .glo "Door", .glo "Fork", .glo "InvalidName", .glo "InvalidPart", .glo "Part", .glo "PathError", .glo "Tool", .free "super"]
abbrev si_InvalidName : Stmt := inClass (top 3) 0
theorem tx_InvalidName : SuTx si_InvalidName "value" where
  body := ⟨_, _, _, _, _, _, _, _, _, _, rfl, fun env he => ⟨_, rfl⟩, fun env he => rfl⟩
  par := ⟨_, rfl, rfl⟩
  kind := rfl
  co := rfl
  gen := rfl
  nc := by decide +kernel
  n1 := by decide +kernel
  n2 := by decide +kernel
  n3 := by decide +kernel
  n4 := by decide +kernel
  ne := by decide
  db := by decide
  bnd := fun _ _ _ _ _ _ _ _ _ _ _ => .of_eq rfl
abbrev si_InvalidPart : Stmt := inClass (top 4) 0
theorem tx_InvalidPart : SuTx si_InvalidPart "word" where
  body := ⟨_, _, _, _, _, _, _, _, _, _, rfl, fun env he => ⟨_, rfl⟩, fun env he => rfl⟩
  par := ⟨_, rfl, rfl⟩
  kind := rfl
  co := rfl
  gen := rfl
  nc := by decide +kernel
  n1 := by decide +kernel
  n2 := by decide +kernel
  n3 := by decide +kernel
  n4 := by decide +kernel
  ne := by decide
  db := by decide
  bnd := fun _ _ _ _ _ _ _ _ _ _ _ => .of_eq rfl
def suL : List (PySem.W.Frag → Addr) := [fun K => He.ma K (He.ga K "InvalidName") "__init__", fun K => He.ma K (He.ga K "InvalidPart") "__init__", fun K => (He.ma K (He.ga K "Tool") "__init__"), fun K => (He.ma K (He.ga K "Tool") "cells"), fun K => (prG K "Fork" "lines"), fun K => (He.ma K (He.ga K "Fork") "cells"), fun K => (He.ma K (He.ga K "Fork") "__init__")]
def svL : List SuW := [suV "InvalidName.__init__" si_InvalidName, suV "InvalidPart.__init__" si_InvalidPart, dfV "__init__" "Tool.__init__" s_Toolu_initu ["__class__"], dfV "cells" "Tool.cells" s_Tool_cells ["__class__"], dfV "lines" "Fork.lines" s_Fork_lines [], dfV "cells" "Fork.cells" s_Fork_cells ["__class__"], dfV "__init__" "Fork.__init__" s_Forku_initu ["__class__"]]
def tfL : List He.Defn := [("_law_refused_right", none)]
def exL (K : PySem.W.Frag) : Bool := decide ((tfL.map fun p => (He.cT K p).2).Nodup) && (suB PySem.Challenge.pw_pathbits_k05_parts_and_tools.main.file K "InvalidName" "value" && (suB PySem.Challenge.pw_pathbits_k05_parts_and_tools.main.file K "InvalidPart" "word" && ((K.lookup sysModules).isSome && (ecB K (He.ga K "InvalidName") && (He.eqO (PySem.W.findIn K (.ref (He.ga K "InvalidName")) "value") (some none) && (decide (PySem.W.kitOne K (.ref (He.ga K "InvalidName")) (.ref (He.ga K "InvalidName")) = some true) && (decide (PySem.W.kitOne K (.ref (He.ga K "InvalidName")) (.ref (He.ga K "InvalidPart")) = some false) && (decide (PySem.W.exmOne K (.ref (He.ga K "InvalidName")) (.ref (He.ga K "PathError")) = some true) && (ecB K (He.ga K "InvalidPart") && (He.eqO (PySem.W.findIn K (.ref (He.ga K "InvalidPart")) "word") (some none) && (decide (PySem.W.kitOne K (.ref (He.ga K "InvalidPart")) (.ref (He.ga K "InvalidName")) = some false) && (decide (PySem.W.kitOne K (.ref (He.ga K "InvalidPart")) (.ref (He.ga K "InvalidPart")) = some true) && (decide (PySem.W.exmOne K (.ref (He.ga K "InvalidPart")) (.ref (He.ga K "PathError")) = some true) && (mkB K "Tool" "Tool" && (clsF K "Part" && (He.conB K "Part" "KIND" (.str "part") && (clsF K "Tool" && (He.conB K "Tool" "KIND" (.str "tool") && (clsF K "Fork" && (He.conB K "Fork" "KIND" (.str "fork") && (methB K "Part" "Part" "cells" && (methB K "Tool" "Tool" "cells" && (methB K "Fork" "Fork" "cells" && (He.eqO (PySem.W.findIn K (.ref (He.ga K "Tool")) "width") (some none) && (He.eqO (PySem.W.findIn K (.ref (He.ga K "Part")) "name") (some none) && (He.eqO (PySem.W.findIn K (.ref (He.ga K "Tool")) "name") (some none) && (He.eqO (PySem.W.findIn K (.ref (He.ga K "Fork")) "name") (some none) && (eqB K "Part" "Part" && (eqB K "Tool" "Tool" && (eqB K "Fork" "Fork" && (mkB K "Part" "Part" && (mkB K "Fork" "Fork" && (cvB K "Door" "KIND" (.str ("door" : Str)) && (cvB K "Fork" "KIND" (.str ("fork" : Str)) && (cvB K "Tool" "KIND" (.str ("tool" : Str)) && (cvB K "Part" "KIND" (.str ("part" : Str)) && (cvB K "Fork" "MOST" (.int 7) && (cvB K "Tool" "MOST" (.int 64) && (supMB K "Tool" "Tool" "Part" "__init__" && (He.conB K "Tool" "MOST" (.int 64) && (He.conB K "Fork" "MOST" (.int 7) && (supMB K "Tool" "Tool" "Part" "cells" && (supMB K "Fork" "Fork" "Part" "cells" && (propB K "Fork" "Fork" "lines" && (He.eqO (PySem.W.findIn K (.ref (He.ga K "Fork")) "own_lines") (some none) && (supMB K "Fork" "Fork" "Part" "__init__" && (tyB K "Part" && (tyB K "Tool" && (tyB K "Fork" && (decide (PySem.W.kitOne K (.ref (He.ga K "Part")) (.ref (He.ga K "Part")) = some true) && (decide (PySem.W.kitOne K (.ref (He.ga K "Tool")) (.ref (He.ga K "Part")) = some true) && (decide (PySem.W.kitOne K (.ref (He.ga K "Fork")) (.ref (He.ga K "Part")) = some true) && (decide (PySem.W.kitOne K (.type "NoneType") (.ref (He.ga K "Part")) = some false) && (decide (PySem.W.kitOne K (.type "bool") (.ref (He.ga K "Part")) = some false) && (decide (PySem.W.kitOne K (.type "int") (.ref (He.ga K "Part")) = some false) && (decide (PySem.W.kitOne K (.type "str") (.ref (He.ga K "Part")) = some false) && (decide (PySem.W.kitOne K (.type "list") (.ref (He.ga K "Part")) = some false) && (decide (PySem.W.kitOne K (.type "tuple") (.ref (He.ga K "Part")) = some false) && (decide (PySem.W.kitOne K (.type "dict") (.ref (He.ga K "Part")) = some false) && (decide (PySem.W.kitOne K (.ref (He.ga K "Part")) (.ref (He.ga K "Tool")) = some false) && (decide (PySem.W.kitOne K (.ref (He.ga K "Tool")) (.ref (He.ga K "Tool")) = some true) && (decide (PySem.W.kitOne K (.ref (He.ga K "Fork")) (.ref (He.ga K "Tool")) = some false) && (decide (PySem.W.kitOne K (.type "NoneType") (.ref (He.ga K "Tool")) = some false) && (decide (PySem.W.kitOne K (.type "bool") (.ref (He.ga K "Tool")) = some false) && (decide (PySem.W.kitOne K (.type "int") (.ref (He.ga K "Tool")) = some false) && (decide (PySem.W.kitOne K (.type "str") (.ref (He.ga K "Tool")) = some false) && (decide (PySem.W.kitOne K (.type "list") (.ref (He.ga K "Tool")) = some false) && (decide (PySem.W.kitOne K (.type "tuple") (.ref (He.ga K "Tool")) = some false) && (decide (PySem.W.kitOne K (.type "dict") (.ref (He.ga K "Tool")) = some false) && (decide (PySem.W.kitOne K (.ref (He.ga K "Part")) (.ref (He.ga K "Fork")) = some false) && (decide (PySem.W.kitOne K (.ref (He.ga K "Tool")) (.ref (He.ga K "Fork")) = some false) && (decide (PySem.W.kitOne K (.ref (He.ga K "Fork")) (.ref (He.ga K "Fork")) = some true) && (decide (PySem.W.kitOne K (.type "NoneType") (.ref (He.ga K "Fork")) = some false) && (decide (PySem.W.kitOne K (.type "bool") (.ref (He.ga K "Fork")) = some false) && (decide (PySem.W.kitOne K (.type "int") (.ref (He.ga K "Fork")) = some false) && (decide (PySem.W.kitOne K (.type "str") (.ref (He.ga K "Fork")) = some false) && (decide (PySem.W.kitOne K (.type "list") (.ref (He.ga K "Fork")) = some false) && (decide (PySem.W.kitOne K (.type "tuple") (.ref (He.ga K "Fork")) = some false) && (decide (PySem.W.kitOne K (.type "dict") (.ref (He.ga K "Fork")) = some false) && (PySem.W.notFirst K (He.ga K "Part") (.ref (He.ga K "Part")) && ((((Value.ref (He.ga K "Part")) != .ref (He.ga K "Tool")) && decide (PySem.W.subIn K (.ref (He.ga K "Tool")) (.ref (He.ga K "Part")) = some true)) && ((((Value.ref (He.ga K "Part")) != .ref (He.ga K "Fork")) && decide (PySem.W.subIn K (.ref (He.ga K "Fork")) (.ref (He.ga K "Part")) = some true)) && (PySem.W.notFirst K (He.ga K "Part") (.type "NoneType") && (PySem.W.notFirst K (He.ga K "Part") (.type "bool") && (PySem.W.notFirst K (He.ga K "Part") (.type "int") && (PySem.W.notFirst K (He.ga K "Part") (.type "str") && (PySem.W.notFirst K (He.ga K "Part") (.type "list") && (PySem.W.notFirst K (He.ga K "Part") (.type "tuple") && (PySem.W.notFirst K (He.ga K "Part") (.type "dict") && (PySem.W.notFirst K (He.ga K "Tool") (.ref (He.ga K "Part")) && (PySem.W.notFirst K (He.ga K "Tool") (.ref (He.ga K "Tool")) && (PySem.W.notFirst K (He.ga K "Tool") (.ref (He.ga K "Fork")) && (PySem.W.notFirst K (He.ga K "Tool") (.type "NoneType") && (PySem.W.notFirst K (He.ga K "Tool") (.type "bool") && (PySem.W.notFirst K (He.ga K "Tool") (.type "int") && (PySem.W.notFirst K (He.ga K "Tool") (.type "str") && (PySem.W.notFirst K (He.ga K "Tool") (.type "list") && (PySem.W.notFirst K (He.ga K "Tool") (.type "tuple") && (PySem.W.notFirst K (He.ga K "Tool") (.type "dict") && (PySem.W.notFirst K (He.ga K "Fork") (.ref (He.ga K "Part")) && (PySem.W.notFirst K (He.ga K "Fork") (.ref (He.ga K "Tool")) && (PySem.W.notFirst K (He.ga K "Fork") (.ref (He.ga K "Fork")) && (PySem.W.notFirst K (He.ga K "Fork") (.type "NoneType") && (PySem.W.notFirst K (He.ga K "Fork") (.type "bool") && (PySem.W.notFirst K (He.ga K "Fork") (.type "int") && (PySem.W.notFirst K (He.ga K "Fork") (.type "str") && (PySem.W.notFirst K (He.ga K "Fork") (.type "list") && (PySem.W.notFirst K (He.ga K "Fork") (.type "tuple") && (PySem.W.notFirst K (He.ga K "Fork") (.type "dict") && (spB PySem.Challenge.pw_pathbits_k05_parts_and_tools.main.file K (He.ma K (He.ga K "Tool") "__init__") (He.ga K "Tool") && (spB PySem.Challenge.pw_pathbits_k05_parts_and_tools.main.file K (He.ma K (He.ga K "Tool") "cells") (He.ga K "Tool") && (plB K (prG K "Fork" "lines") "Fork.lines" && (spB PySem.Challenge.pw_pathbits_k05_parts_and_tools.main.file K (He.ma K (He.ga K "Fork") "cells") (He.ga K "Fork") && (spB PySem.Challenge.pw_pathbits_k05_parts_and_tools.main.file K (He.ma K (He.ga K "Fork") "__init__") (He.ga K "Fork")))))))))))))))))))))))))))))))))))))))))))))))))))))))))))))))))))))))))))))))))))))))))))))))))))))))))))))))))))
abbrev RR : PySem.W.OpenRow := PySem.W.OpenLaw.row PySem.Challenge.rw_pathbits_k05_parts_and_tools
abbrev hkL : PySem.W.Hook := hookX 6 faL fnL suL svL tfL exL
def obL (s : PySem.W.SharedT) : AlU := obsX 6 faL fnL suL tfL exL (HandSHeadRun.getT s)
theorem obL_eq (s : PySem.W.SharedT) : obL s = hkL.obs s.abs := obsX_eq (HandSHeadRun.getT_eq s)
theorem run (w : World) : HandSHeadRun.RunEq RR (PySem.W.view RR.prog [30]) hkL obL 4000 ["_wall", "PathError", "InvalidName", "InvalidPart", "is_integer", "is_between", "LETTERS", "MOST_LETTERS", "MOST_WORDS", "POINT", "is_simple", "is_name", "Part", "Tool", "is_line", "number_width", "Fork", "Door", "_law_pen", "_law_draw", "_law_pick", "_law_heard", "_law_label", "_law_odd_label", "_law_refused_right"] w := by
  intro os
  kernel_rfl
theorem facts {w : World} {K : PySem.W.Frag} {h : Heap} {mg : Str → Option Value} {f : Addr} (X : K.In h) (G : h.Ns mainGlobals mg) (hfa : mg ("law" : Str) = some (.ref f)) (c : SaysX faL fnL suL svL tfL exL h K) :
    ∃ fd : FuncData, (∀ (s : Shared) (v : Value), BindsTo s fd ⟨[v], []⟩ [("_law_script", v)]) ∧ ∀ base : Heap, K.In base → base.Ns mainGlobals mg → (∀ p ∈ tfL.map (He.cT K), LamX.TabB base mg p.1 p.2) → FnG true (PySem.Challenge.rw_pathbits_k05_parts_and_tools).prog w K mg base CX0 10 f fd ["_law_script"] (spLaw K (tabs K)) := by
  have Bn := c.more
  unfold exL at Bn
  obtain ⟨bn, B0⟩ := He.ba Bn
  have hnd : ((tabs K).map (·.1)).Nodup := by simpa [tabs, tfL] using of_decide_eq_true bn
  obtain ⟨b0, B1⟩ := He.ba B0
  obtain ⟨b1, B2⟩ := He.ba B1
  obtain ⟨b2, B3⟩ := He.ba B2
  obtain ⟨b3, B4⟩ := He.ba B3
  obtain ⟨b4, B5⟩ := He.ba B4
  obtain ⟨b5, B6⟩ := He.ba B5
  obtain ⟨b6, B7⟩ := He.ba B6
  obtain ⟨b7, B8⟩ := He.ba B7
  obtain ⟨b8, B9⟩ := He.ba B8
  obtain ⟨b9, B10⟩ := He.ba B9
  obtain ⟨b10, B11⟩ := He.ba B10
  obtain ⟨b11, B12⟩ := He.ba B11
  obtain ⟨b12, B13⟩ := He.ba B12
  obtain ⟨b13, B14⟩ := He.ba B13
  obtain ⟨b14, B15⟩ := He.ba B14
  obtain ⟨b15, B16⟩ := He.ba B15
  obtain ⟨b16, B17⟩ := He.ba B16
  obtain ⟨b17, B18⟩ := He.ba B17
  obtain ⟨b18, B19⟩ := He.ba B18
  obtain ⟨b19, B20⟩ := He.ba B19
  obtain ⟨b20, B21⟩ := He.ba B20
  obtain ⟨b21, B22⟩ := He.ba B21
  obtain ⟨b22, B23⟩ := He.ba B22
  obtain ⟨b23, B24⟩ := He.ba B23
  obtain ⟨b24, B25⟩ := He.ba B24
  obtain ⟨b25, B26⟩ := He.ba B25
  obtain ⟨b26, B27⟩ := He.ba B26
  obtain ⟨b27, B28⟩ := He.ba B27
  obtain ⟨b28, B29⟩ := He.ba B28
  obtain ⟨b29, B30⟩ := He.ba B29
  obtain ⟨b30, B31⟩ := He.ba B30
  obtain ⟨b31, B32⟩ := He.ba B31
  obtain ⟨b32, B33⟩ := He.ba B32
  obtain ⟨b33, B34⟩ := He.ba B33
  obtain ⟨b34, B35⟩ := He.ba B34
  obtain ⟨b35, B36⟩ := He.ba B35
  obtain ⟨b36, B37⟩ := He.ba B36
  obtain ⟨b37, B38⟩ := He.ba B37
  obtain ⟨b38, B39⟩ := He.ba B38
  obtain ⟨b39, B40⟩ := He.ba B39
  obtain ⟨b40, B41⟩ := He.ba B40
  obtain ⟨b41, B42⟩ := He.ba B41
  obtain ⟨b42, B43⟩ := He.ba B42
  obtain ⟨b43, B44⟩ := He.ba B43
  obtain ⟨b44, B45⟩ := He.ba B44
  obtain ⟨b45, B46⟩ := He.ba B45
  obtain ⟨b46, B47⟩ := He.ba B46
  obtain ⟨b47, B48⟩ := He.ba B47
  obtain ⟨b48, B49⟩ := He.ba B48
  obtain ⟨b49, B50⟩ := He.ba B49
  obtain ⟨b50, B51⟩ := He.ba B50
  obtain ⟨b51, B52⟩ := He.ba B51
  obtain ⟨b52, B53⟩ := He.ba B52
  obtain ⟨b53, B54⟩ := He.ba B53
  obtain ⟨b54, B55⟩ := He.ba B54
  obtain ⟨b55, B56⟩ := He.ba B55
  obtain ⟨b56, B57⟩ := He.ba B56
  obtain ⟨b57, B58⟩ := He.ba B57
  obtain ⟨b58, B59⟩ := He.ba B58
  obtain ⟨b59, B60⟩ := He.ba B59
  obtain ⟨b60, B61⟩ := He.ba B60
  obtain ⟨b61, B62⟩ := He.ba B61
  obtain ⟨b62, B63⟩ := He.ba B62
  obtain ⟨b63, B64⟩ := He.ba B63
  obtain ⟨b64, B65⟩ := He.ba B64
  obtain ⟨b65, B66⟩ := He.ba B65
  obtain ⟨b66, B67⟩ := He.ba B66
  obtain ⟨b67, B68⟩ := He.ba B67
  obtain ⟨b68, B69⟩ := He.ba B68
  obtain ⟨b69, B70⟩ := He.ba B69
  obtain ⟨b70, B71⟩ := He.ba B70
  obtain ⟨b71, B72⟩ := He.ba B71
  obtain ⟨b72, B73⟩ := He.ba B72
  obtain ⟨b73, B74⟩ := He.ba B73
  obtain ⟨b74, B75⟩ := He.ba B74
  obtain ⟨b75, B76⟩ := He.ba B75
  obtain ⟨b76, B77⟩ := He.ba B76
  obtain ⟨b77, B78⟩ := He.ba B77
  obtain ⟨b78, B79⟩ := He.ba B78
  obtain ⟨b79, B80⟩ := He.ba B79
  obtain ⟨b80, B81⟩ := He.ba B80
  obtain ⟨b81, B82⟩ := He.ba B81
  obtain ⟨b82, B83⟩ := He.ba B82
  obtain ⟨b83, B84⟩ := He.ba B83
  obtain ⟨b84, B85⟩ := He.ba B84
  obtain ⟨b85, B86⟩ := He.ba B85
  obtain ⟨b86, B87⟩ := He.ba B86
  obtain ⟨b87, B88⟩ := He.ba B87
  obtain ⟨b88, B89⟩ := He.ba B88
  obtain ⟨b89, B90⟩ := He.ba B89
  obtain ⟨b90, B91⟩ := He.ba B90
  obtain ⟨b91, B92⟩ := He.ba B91
  obtain ⟨b92, B93⟩ := He.ba B92
  obtain ⟨b93, B94⟩ := He.ba B93
  obtain ⟨b94, B95⟩ := He.ba B94
  obtain ⟨b95, B96⟩ := He.ba B95
  obtain ⟨b96, B97⟩ := He.ba B96
  obtain ⟨b97, B98⟩ := He.ba B97
  obtain ⟨b98, B99⟩ := He.ba B98
  obtain ⟨b99, B100⟩ := He.ba B99
  obtain ⟨b100, B101⟩ := He.ba B100
  obtain ⟨b101, B102⟩ := He.ba B101
  obtain ⟨b102, B103⟩ := He.ba B102
  obtain ⟨b103, B104⟩ := He.ba B103
  obtain ⟨b104, B105⟩ := He.ba B104
  obtain ⟨b105, B106⟩ := He.ba B105
  obtain ⟨b106, B107⟩ := He.ba B106
  obtain ⟨b107, B108⟩ := He.ba B107
  obtain ⟨b108, B109⟩ := He.ba B108
  obtain ⟨b109, B110⟩ := He.ba B109
  obtain ⟨b110, B111⟩ := He.ba B110
  obtain ⟨b111, B112⟩ := He.ba B111
  obtain ⟨b112, B113⟩ := He.ba B112
  have b113 := B113
  have g : Glb (PySem.Challenge.rw_pathbits_k05_parts_and_tools).prog K mg := ⟨He.free_ok X G (c.d.fact 14 (f := .free "abs") rfl),
    He.free_ok X G (c.d.fact 15 (f := .free "all") rfl),
    He.free_ok X G (c.d.fact 16 (f := .free "bool") rfl),
    He.free_ok X G (c.d.fact 17 (f := .free "int") rfl),
    He.free_ok X G (c.d.fact 18 (f := .free "isinstance") rfl),
    He.free_ok X G (c.d.fact 19 (f := .free "len") rfl),
    He.free_ok X G (c.d.fact 20 (f := .free "list") rfl),
    He.free_ok X G (c.d.fact 21 (f := .free "range") rfl),
    He.free_ok X G (c.d.fact 22 (f := .free "repr") rfl),
    He.free_ok X G (c.d.fact 23 (f := .free "str") rfl),
    He.free_ok X G (c.d.fact 24 (f := .free "tuple") rfl),
    (let ⟨t, e⟩ := He.str_ok X G (c.d.fact 25 (f := .str "LETTERS" "abcdefghijklmnopqrstuvwxyz") rfl); ⟨.str "abcdefghijklmnopqrstuvwxyz" t, e, ⟨t, rfl⟩⟩),
    (let ⟨t, e⟩ := He.int_ok X G (c.d.fact 26 (f := .int "MOST_LETTERS" 8) rfl); ⟨.int 8 t, e, ⟨t, rfl⟩⟩),
    (let ⟨t, e⟩ := He.int_ok X G (c.d.fact 27 (f := .int "MOST_WORDS" 4) rfl); ⟨.int 4 t, e, ⟨t, rfl⟩⟩),
    (let ⟨t, e⟩ := He.str_ok X G (c.d.fact 28 (f := .str "POINT" ".") rfl); ⟨.str "." t, e, ⟨t, rfl⟩⟩),
    He.glo_ok X G (c.d.fact 29 (f := .glo "Door") rfl),
    He.glo_ok X G (c.d.fact 30 (f := .glo "Fork") rfl),
    He.glo_ok X G (c.d.fact 31 (f := .glo "InvalidName") rfl),
    He.glo_ok X G (c.d.fact 32 (f := .glo "InvalidPart") rfl),
    He.glo_ok X G (c.d.fact 33 (f := .glo "Part") rfl),
    He.glo_ok X G (c.d.fact 34 (f := .glo "PathError") rfl),
    He.glo_ok X G (c.d.fact 35 (f := .glo "Tool") rfl),
    supT_of b0 (c.at_ 0 rfl rfl) (tx_InvalidName) (He.free_ok X G (c.d.fact 36 (f := .free "super") rfl)) rfl,
    supT_of b1 (c.at_ 1 rfl rfl) (tx_InvalidPart) (He.free_ok X G (c.d.fact 36 (f := .free "super") rfl)) rfl,
    Option.isSome_iff_exists.mp b2,
    b3,
    He.eqO_ok b4,
    of_decide_eq_true b5,
    of_decide_eq_true b6,
    of_decide_eq_true b7,
    b8,
    He.eqO_ok b9,
    of_decide_eq_true b10,
    of_decide_eq_true b11,
    of_decide_eq_true b12,
    mkB_ok b13,
    He.cls_ok b14,
    (He.conB_ok b15),
    He.cls_ok b16,
    (He.conB_ok b17),
    He.cls_ok b18,
    (He.conB_ok b19),
    methB_ok b20,
    methB_ok b21,
    methB_ok b22,
    He.eqO_ok b23,
    He.eqO_ok b24,
    He.eqO_ok b25,
    He.eqO_ok b26,
    eqB_ok b27,
    eqB_ok b28,
    eqB_ok b29,
    mkB_ok b30,
    mkB_ok b31,
    (cvB_ok b32),
    (cvB_ok b33),
    (cvB_ok b34),
    (cvB_ok b35),
    (cvB_ok b36),
    (cvB_ok b37),
    supMB_ok b38,
    (He.conB_ok b39),
    (He.conB_ok b40),
    supMB_ok b41,
    supMB_ok b42,
    propB_ok b43,
    He.eqO_ok b44,
    supMB_ok b45,
    tyB_ok b46,
    tyB_ok b47,
    tyB_ok b48,
    of_decide_eq_true b49,
    of_decide_eq_true b50,
    of_decide_eq_true b51,
    of_decide_eq_true b52,
    of_decide_eq_true b53,
    of_decide_eq_true b54,
    of_decide_eq_true b55,
    of_decide_eq_true b56,
    of_decide_eq_true b57,
    of_decide_eq_true b58,
    of_decide_eq_true b59,
    of_decide_eq_true b60,
    of_decide_eq_true b61,
    of_decide_eq_true b62,
    of_decide_eq_true b63,
    of_decide_eq_true b64,
    of_decide_eq_true b65,
    of_decide_eq_true b66,
    of_decide_eq_true b67,
    of_decide_eq_true b68,
    of_decide_eq_true b69,
    of_decide_eq_true b70,
    of_decide_eq_true b71,
    of_decide_eq_true b72,
    of_decide_eq_true b73,
    of_decide_eq_true b74,
    of_decide_eq_true b75,
    of_decide_eq_true b76,
    of_decide_eq_true b77,
    of_decide_eq_true b78,
    b79,
    (let z := He.ba b80; ⟨z.1, of_decide_eq_true z.2⟩),
    (let z := He.ba b81; ⟨z.1, of_decide_eq_true z.2⟩),
    b82,
    b83,
    b84,
    b85,
    b86,
    b87,
    b88,
    b89,
    b90,
    b91,
    b92,
    b93,
    b94,
    b95,
    b96,
    b97,
    b98,
    b99,
    b100,
    b101,
    b102,
    b103,
    b104,
    b105,
    b106,
    b107,
    b108,
    He.free_ok X G (c.d.fact 36 (f := .free "super") rfl)⟩
  obtain ⟨fd__law_pen, F__law_pen⟩ := c.d.def_ 0 (d := dd__law_pen) rfl
  have m__law_pen := He.glo_ok X G (c.d.fact 0 (f := .glo "_law_pen") rfl)
  obtain ⟨fd__law_draw, F__law_draw⟩ := c.d.def_ 1 (d := dd__law_draw) rfl
  have m__law_draw := He.glo_ok X G (c.d.fact 1 (f := .glo "_law_draw") rfl)
  obtain ⟨fd__law_pick, F__law_pick⟩ := c.d.def_ 2 (d := dd__law_pick) rfl
  have m__law_pick := He.glo_ok X G (c.d.fact 2 (f := .glo "_law_pick") rfl)
  obtain ⟨fd__law_label, F__law_label⟩ := c.d.def_ 3 (d := dd__law_label) rfl
  have m__law_label := He.glo_ok X G (c.d.fact 3 (f := .glo "_law_label") rfl)
  obtain ⟨fd_is_simple, F_is_simple⟩ := c.d.def_ 4 (d := dd_is_simple) rfl
  have m_is_simple := He.glo_ok X G (c.d.fact 4 (f := .glo "is_simple") rfl)
  obtain ⟨fd_is_name, F_is_name⟩ := c.d.def_ 5 (d := dd_is_name) rfl
  have m_is_name := He.glo_ok X G (c.d.fact 5 (f := .glo "is_name") rfl)
  obtain ⟨fd_is_integer, F_is_integer⟩ := c.d.def_ 6 (d := dd_is_integer) rfl
  have m_is_integer := He.glo_ok X G (c.d.fact 6 (f := .glo "is_integer") rfl)
  obtain ⟨fd_is_between, F_is_between⟩ := c.d.def_ 7 (d := dd_is_between) rfl
  have m_is_between := He.glo_ok X G (c.d.fact 7 (f := .glo "is_between") rfl)
  obtain ⟨fd_number_width, F_number_width⟩ := c.d.def_ 8 (d := dd_number_width) rfl
  have m_number_width := He.glo_ok X G (c.d.fact 8 (f := .glo "number_width") rfl)
  obtain ⟨fd_is_line, F_is_line⟩ := c.d.def_ 9 (d := dd_is_line) rfl
  have m_is_line := He.glo_ok X G (c.d.fact 9 (f := .glo "is_line") rfl)
  obtain ⟨fd__law_odd_label, F__law_odd_label⟩ := c.d.def_ 10 (d := dd__law_odd_label) rfl
  have m__law_odd_label := He.glo_ok X G (c.d.fact 10 (f := .glo "_law_odd_label") rfl)
  obtain ⟨fd__law_heard, F__law_heard⟩ := c.d.def_ 11 (d := dd__law_heard) rfl
  have m__law_heard := He.glo_ok X G (c.d.fact 11 (f := .glo "_law_heard") rfl)
  obtain ⟨fd__law_refused_right, F__law_refused_right⟩ := c.d.def_ 12 (d := dd__law_refused_right) rfl
  have m__law_refused_right := He.glo_ok X G (c.d.fact 12 (f := .glo "_law_refused_right") rfl)
  obtain ⟨fd_law, F_law⟩ := c.d.def_ 13 (d := dd_law) rfl
  have m_law := He.glo_ok X G (c.d.fact 13 (f := .glo "law") rfl)
  obtain ⟨fd_Partu_initu, F_Partu_initu⟩ := c.d.def_ 14 (d := dd_Partu_initu) rfl
  obtain ⟨fd_Part_cells, F_Part_cells⟩ := c.d.def_ 15 (d := dd_Part_cells) rfl
  obtain ⟨fd_Partu_equ, F_Partu_equ⟩ := c.d.def_ 16 (d := dd_Partu_equ) rfl
  obtain ⟨fd_Toolu_equ, F_Toolu_equ⟩ := c.d.def_ 17 (d := dd_Toolu_equ) rfl
  obtain ⟨fd_Forku_equ, F_Forku_equ⟩ := c.d.def_ 18 (d := dd_Forku_equ) rfl
  obtain ⟨fd_Toolu_initu, F_Toolu_initu⟩ := funS_of (c.at_ 2 rfl rfl) b109
  obtain ⟨fd_Tool_cells, F_Tool_cells⟩ := funS_of (c.at_ 3 rfl rfl) b110
  obtain ⟨fd_Fork_lines, F_Fork_lines⟩ := funD_of (c.at_ 4 rfl rfl) b111
  obtain ⟨fd_Fork_cells, F_Fork_cells⟩ := funS_of (c.at_ 5 rfl rfl) b112
  obtain ⟨fd_Forku_initu, F_Forku_initu⟩ := funS_of (c.at_ 6 rfl rfl) b113
  have e := hfa.symm.trans m_law
  cases e
  have b := FunD.bindsA (ps := ["_law_script"]) F_law fun _ _ _ _ _ _ us hl => match us, hl with | [_], _ => rfl
  have hb__law_heard : Binds K fd__law_heard ["_law_ask"] [] := FunD.bindsN F__law_heard fun _ _ _ _ _ _ us hl => match us, hl with | [_], _ => rfl
  refine ⟨fd_law, fun s v => b s [v] rfl, fun base _ _ hTB => ?_⟩
  have k__law_pen := cal__law_pen (P := (PySem.Challenge.rw_pathbits_k05_parts_and_tools).prog) (w := w) (base := base) g m__law_pen F__law_pen  
  have k__law_draw := cal__law_draw (P := (PySem.Challenge.rw_pathbits_k05_parts_and_tools).prog) (w := w) (base := base) g m__law_draw F__law_draw  
  have k__law_pick := cal__law_pick (P := (PySem.Challenge.rw_pathbits_k05_parts_and_tools).prog) (w := w) (base := base) g m__law_pick F__law_pick  k__law_draw
  have k__law_label := cal__law_label (P := (PySem.Challenge.rw_pathbits_k05_parts_and_tools).prog) (w := w) (base := base) g m__law_label F__law_label  k__law_pick
  have k_is_simple := cal_is_simple (P := (PySem.Challenge.rw_pathbits_k05_parts_and_tools).prog) (w := w) (base := base) g m_is_simple F_is_simple  
  have k_is_name := cal_is_name (P := (PySem.Challenge.rw_pathbits_k05_parts_and_tools).prog) (w := w) (base := base) g m_is_name F_is_name  k_is_simple
  have o_Partu_initu := ok_Partu_initu (P := (PySem.Challenge.rw_pathbits_k05_parts_and_tools).prog) (w := w) (base := base) g F_Partu_initu k_is_name
  have q_Partu_initu := o_Partu_initu.q (bd_Partu_initu F_Partu_initu)
  have kq_Partu_initu_0_name := o_Partu_initu.toK (kb_kq_Partu_initu_0_name F_Partu_initu)
  have k_is_integer := cal_is_integer (P := (PySem.Challenge.rw_pathbits_k05_parts_and_tools).prog) (w := w) (base := base) g m_is_integer F_is_integer  
  have k_is_between := cal_is_between (P := (PySem.Challenge.rw_pathbits_k05_parts_and_tools).prog) (w := w) (base := base) g m_is_between F_is_between  k_is_integer
  have o_Toolu_initu := ok_Toolu_initu (P := (PySem.Challenge.rw_pathbits_k05_parts_and_tools).prog) (w := w) (base := base) g rfl F_Toolu_initu q_Partu_initu k_is_between
  have q_Toolu_initu := o_Toolu_initu.q (bd_Toolu_initu F_Toolu_initu)
  have kq_Toolu_initu_0_width_name := o_Toolu_initu.toK (kb_kq_Toolu_initu_0_width_name F_Toolu_initu)
  have o_Part_cells := ok_Part_cells (P := (PySem.Challenge.rw_pathbits_k05_parts_and_tools).prog) (w := w) (base := base) g F_Part_cells 
  have q_Part_cells := o_Part_cells.q (bd_Part_cells F_Part_cells)
  have o_Tool_cells := ok_Tool_cells (P := (PySem.Challenge.rw_pathbits_k05_parts_and_tools).prog) (w := w) (base := base) g rfl F_Tool_cells q_Part_cells
  have q_Tool_cells := o_Tool_cells.q (bd_Tool_cells F_Tool_cells)
  have k_number_width := cal_number_width (P := (PySem.Challenge.rw_pathbits_k05_parts_and_tools).prog) (w := w) (base := base) g m_number_width F_number_width  
  have o_Fork_lines := ok_Fork_lines (P := (PySem.Challenge.rw_pathbits_k05_parts_and_tools).prog) (w := w) (base := base) g F_Fork_lines 
  have q_Fork_lines := o_Fork_lines.q (bd_Fork_lines F_Fork_lines)
  have o_Fork_cells := ok_Fork_cells (P := (PySem.Challenge.rw_pathbits_k05_parts_and_tools).prog) (w := w) (base := base) g rfl F_Fork_cells q_Part_cells k_number_width q_Fork_lines
  have q_Fork_cells := o_Fork_cells.q (bd_Fork_cells F_Fork_cells)
  have o_Partu_equ := ok_Partu_equ (P := (PySem.Challenge.rw_pathbits_k05_parts_and_tools).prog) (w := w) (base := base) g F_Partu_equ 
  have q_Partu_equ := o_Partu_equ.q (bd_Partu_equ F_Partu_equ)
  have o_Toolu_equ := ok_Toolu_equ (P := (PySem.Challenge.rw_pathbits_k05_parts_and_tools).prog) (w := w) (base := base) g F_Toolu_equ 
  have q_Toolu_equ := o_Toolu_equ.q (bd_Toolu_equ F_Toolu_equ)
  have o_Forku_equ := ok_Forku_equ (P := (PySem.Challenge.rw_pathbits_k05_parts_and_tools).prog) (w := w) (base := base) g F_Forku_equ q_Fork_lines
  have q_Forku_equ := o_Forku_equ.q (bd_Forku_equ F_Forku_equ)
  have k_is_line := cal_is_line (P := (PySem.Challenge.rw_pathbits_k05_parts_and_tools).prog) (w := w) (base := base) g m_is_line F_is_line  
  have q_Forku_initu := Pb.K05.q_Forku_initu (P := (PySem.Challenge.rw_pathbits_k05_parts_and_tools).prog) (w := w) (base := base) g rfl F_Forku_initu q_Partu_initu k_is_line
  have k__law_odd_label := cal__law_odd_label (P := (PySem.Challenge.rw_pathbits_k05_parts_and_tools).prog) (w := w) (base := base) g m__law_odd_label F__law_odd_label  k__law_pick
  have k__law_refused_right := cal__law_refused_right (P := (PySem.Challenge.rw_pathbits_k05_parts_and_tools).prog) (w := w) (base := base) g m__law_refused_right F__law_refused_right F__law_heard m__law_heard hb__law_heard (hTB _ (List.mem_map_of_mem (by decide))) hnd rfl k__law_odd_label k__law_label k__law_pick q_Partu_initu kq_Partu_initu_0_name q_Toolu_initu kq_Toolu_initu_0_width_name
  exact ok_law g F_law  k__law_pen k__law_pick k__law_draw k__law_label kq_Toolu_initu_0_width_name q_Toolu_initu q_Part_cells q_Tool_cells q_Fork_cells q_Partu_equ q_Toolu_equ q_Forku_equ q_Partu_initu q_Forku_initu k__law_refused_right
end Pb.K05
open PySem PySem.W PySem.Calls PyProof.Rows
theorem PySem.Challenge.cw_pathbits_k05_parts_and_tools_holds : PySem.Challenge.rw_pathbits_k05_parts_and_tools.Holds := by
  w_on; o_law
  refine HandSHeadRun.head_any (r := OpenLaw.row PySem.Challenge.rw_pathbits_k05_parts_and_tools) (q := view (OpenLaw.row PySem.Challenge.rw_pathbits_k05_parts_and_tools).prog [30]) (H := Pb.K05.hkL) (ob := Pb.K05.obL) (M := 4000) (loose := ["_wall", "PathError", "InvalidName", "InvalidPart", "is_integer", "is_between", "LETTERS", "MOST_LETTERS", "MOST_WORDS", "POINT", "is_simple", "is_name", "Part", "Tool", "is_line", "number_width", "Fork", "Door", "_law_pen", "_law_draw", "_law_pick", "_law_heard", "_law_label", "_law_odd_label", "_law_refused_right"]) (d := HandSHeadRun.topDef (OpenLaw.row PySem.Challenge.rw_pathbits_k05_parts_and_tools).prog 30) (kwd := []) Pb.K05.obL_eq
    (by kernel_rfl) (fun s => by kernel_rfl) Pb.K05.run (by kernel_rfl) (by kernel_rfl) (by kernel_rfl) (by rfl) (by first | assumption | decide +kernel) (by decide +kernel) ⟨rfl, rfl, rfl, rfl, rfl, by decide +kernel⟩ ?hw ?hc
  case hw => w_witness2
  case hc =>
    refine Pb.walkGT (l := PySem.Challenge.rw_pathbits_k05_parts_and_tools) (n := 63) (k := 10) (x := "_law_script") (CX := fun _ => L2.CX0) rfl (by decide) (by kernel_rfl) ⟨⟨rfl, by decide, by decide⟩, fun _ => rfl⟩ ?F (fun _ _ _ _ _ z => z)
    intro w mg fa h Y G hmg0
    obtain ⟨K, KX, c⟩ := Y
    have hmg : mg ("law" : PySem.Str) = some (.ref fa) := by
      have e : (HandSHeadRun.topDef (OpenLaw.row PySem.Challenge.rw_pathbits_k05_parts_and_tools).prog 30).name = ("law" : PySem.Str) := by kernel_rfl
      rw [← e]
      exact hmg0
    obtain ⟨fd, hb, hF⟩ := Pb.K05.facts (w := w) KX G hmg c
    have per : ∀ q ∈ Pb.K05.tfL.map (He.cT K), ∃ p ∈ Pb.K05.tfL, He.cT K p = q := fun q hq => List.mem_map.mp hq
    refine ⟨K, fd, Pb.spLaw K (Pb.K05.tabs K), Pb.K05.tfL.map (He.cT K), KX, fun q hq => ?_, fun q hq => ?_, fun q hq => ?_, hb, fun H a ns hl hT hS => ⟨a, ns, rfl, hS, hl, ?_, fun _ => rfl⟩, hF⟩
    · obtain ⟨p, hp, rfl⟩ := per q hq
      exact c.empty p hp
    · obtain ⟨p, hp, rfl⟩ := per q hq
      exact c.out p hp
    · obtain ⟨p, hp, rfl⟩ := per q hq
      exact PySem.W.codeHd_of_K KX (c.hd p hp)
    · intro q hq
      have hq' : ∃ p ∈ Pb.K05.tfL, (He.cT K p).2 = q.1 := by
        simp only [Pb.K05.tabs, List.mem_cons, List.mem_nil_iff, or_false] at hq
        rcases hq with rfl
        · exact ⟨("_law_refused_right", none), by decide, rfl⟩
      obtain ⟨p, hp, e⟩ := hq'
      exact LamX.TabS.nil (by rw [← e]; exact hT _ (List.mem_map_of_mem hp))
