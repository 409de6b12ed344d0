import PyProof.Rows.All
import Wide.All
import OpenK.AllK
import Wide.FinOn
import HandS.ForMost
import HandS.Exc
import HandS.IsInst
import HandS.Codes
import HandS.Defaults
import HandS.Walk
import HandS.TupAny
import HandS.TupMul
import HandS.Style
import HandS.Flow
import HandS.Lambda
import HandS.ExcInit
import HandS.RaiseMore
import HandS.More
import PyProof.ReprRoads
import PyProof.ReprLen
import HandS.HeadEnd
import HandS.HeadHook1
import HandS.HeadHook2
import HandS.Head0
import HandS.Head1
import HandS.Head2
import KE.KExcSuper
import HandS.EndTab
import HandS.HeadHook4
import HandS.ExcField
import HandS.ExcIs
import KE.KStateDown
import Lean
import HandS.Base
import HandS.Call
import HandS.Ends
import HandS.Words
import HandS.WordsExc
import PySem.Challenge.RW_pathbits_k03_whole_numbers_and_bits
set_option Elab.async false
set_option linter.all false
set_option maxRecDepth 100000
set_option maxHeartbeats 4000000
namespace Pb
open PySem PySem.Spec PyProof.Rows L2

/-! ### room with the guards known -/
structure RoomG (b : Bool) (k : Nat) (A : Around) : Prop where
  rm : Room k A
  gd : b = true → A.guards = some []
theorem RoomG.sub {b b2 : Bool} {k : Nat} {A : Around} (r : RoomG b2 k A) (h : (!b || b2) = true) : RoomG b k A := ⟨r.rm, fun z => r.gd (by subst z; simpa using h)⟩
theorem roomG_of {k : Nat} {A : Around} (r : Room k A) : RoomG false k A := ⟨r, fun z => by cases z⟩
theorem RoomG.mono {b : Bool} {j k : Nat} {A : Around} (r : RoomG b k A) (h : j ≤ k) : RoomG b j A := ⟨r.rm.mono h, r.gd⟩
theorem guards_deeper {A : Around} {env : Env} : (A.deeper env).guards = A.guards := by
  first
    | rfl
    | (cases A with | mk a b c d e => cases d <;> first | rfl | simp [Around.deeper])
theorem RoomG.deeper {b : Bool} {k : Nat} {A : Around} (r : RoomG b (k + 1) A) (env : Env) : RoomG b k (A.deeper env) :=
  ⟨r.rm.deeper env, fun z => by rw [guards_deeper]; exact r.gd z⟩
theorem RoomG.make {b : Bool} {k : Nat} {A : Around} (r : RoomG b (k + 1) A) (C : Addr) (us : List Value) (kw : List (Str × Value)) :
    RoomG b k (A.under (.builtin "type.__call__" ⟨.ref C :: us, kw⟩)) :=
  ⟨r.rm.make C us kw, fun z => by
    have h := r.gd z
    first
      | exact h
      | (simpa [Around.under, Code.guards, Code.isGuard, pushGuards, guardIds] using h)⟩

/-- a def keeps its promise, wherever there is room and no guard stands -/
structure FnG (b : Bool) (P : Program) (w : World) (K : PySem.W.Frag) (mg : Str → Option Value) (base : Heap) (CX : CXT) (k : Nat) (f : Addr) (fd : FuncData) (ps : List Str) (sp : Sp) : Prop where
  len : ∀ vs H Q E, sp vs H Q E → vs.length = ps.length
  run : ∀ (A : Around) (outer : List Env) (s : Shared) (H : Hp) (args : Args) (us : List Value) (vs : List V) (Q : VK) (E : XK), RoomG b k A →
    Env0 P w K mg base A outer s H → BindsTo s fd args (ps.zip us) → Vals vs us → sp vs H Q E →
    codeAny (model P w) A (.call (.ref f) args) (CR CX outer P w H s Q E) s
theorem FnG.mono {b : Bool} {P : Program} {w : World} {K : PySem.W.Frag} {mg : Str → Option Value} {base : Heap} {CX : CXT} {j k : Nat} {f : Addr} {fd : FuncData} {ps : List Str} {sp : Sp}
    (F : FnG b P w K mg base CX j f fd ps sp) (h : j ≤ k) : FnG b P w K mg base CX k f fd ps sp :=
  ⟨F.len, fun A outer s H args us vs Q E hr => F.run A outer s H args us vs Q E (hr.mono h)⟩

/-- a def of the text, by its body -/
theorem fnG_of {b : Bool} {CX : CXT} {P : Program} {w : World} {K : PySem.W.Frag} {mg : Str → Option Value} {base : Heap} {k : Nat} {f : Addr} {name qual : Str} {params : Arguments} {body : List Stmt}
    {scope : Scope} {dV kV doc pm cdv ct oc : Value} {an od : Option Addr} {osl : Array (Option Value)} {N ps : List Str} {sp : Sp}
    (lk : K.lookup f = some ⟨oc, od, .func (PySem.W.fnOf name qual params body scope dV kV doc pm an cdv ct), osl⟩) (hcd : PySem.W.codeIn K cdv qual = true) (S : FnScope N ps scope)
    (len : ∀ vs H Q E, sp vs H Q E → vs.length = ps.length)
    (hbody : ∀ (A : Around) (outer : List Env) (s : Shared) (H : Hp) (vs : List V) (Q : VK) (E : XK),
      RoomG b k (A.deeper (envOfC qual scope s.heap.objs.size f cdv)) → sp vs H Q E →
      ∃ t, PSs (cxOf CX P w K mg base N qual scope f cdv A outer s H E) body t ∧ t { nx := fun _ H' => Q .non H', rt := Q } (start N vs) H) :
    FnG b P w K mg base CX (k + 1) f (PySem.W.fnOf name qual params body scope dV kV doc pm an cdv ct) ps sp := by
  constructor
  · exact len
  intro A outer s H args us vs Q E hr e0 hb r hsp
  have hlen := len _ _ _ _ hsp
  have hin : K.In s.heap := e0.mod.kin.keeps fun b o e => (e0.bs b o e).1
  have hlim : s.heap.NoLimit := e0.mod.nolimit.keeps fun b o e => (e0.bs b o e).1
  have hkd : ∀ y ∈ ps.zip us, scope.names.lookup y.1 = some .local ∨
      (scope.names.lookup y.1 = some .cell ∧ ((cellsFrom (s.heap.objs.size + 1) scope.names []).lookup y.1).isSome = true) := by
    rintro ⟨n, v⟩ hy
    rcases S.par n (List.of_mem_zip hy).1 with q | q
    · left; exact q
    · right; exact ⟨q, PySem.W.cellsFrom_some _ _ _ (.inl q)⟩
  refine codeAny_call_function hr.rm.depth (hin _ _ lk) rfl S.co S.gen rfl (PySem.W.codeRec_of hin hcd) (hb _ _ _ _ ?_)
  refine wpAny_newFunctionEnv_cells S.kind hkd ?_
  intro env he s1 x
  subst he
  refine ⟨hlim.keeps x.toInCall.keep, codeAny_func ?_⟩
  obtain ⟨t, ht, hq⟩ := hbody A outer s H vs Q E (hr.deeper _) hsp
  have I := inv_start (CX := CX) (E := E) S hr.rm.hd e0 hlen r x
  refine wpAny_mono (ht.run [] s1 (start N vs) H _ I hq) ?_ ?_
  · intro fl s' hs
    cases fl with
    | ret u =>
      obtain ⟨v, σ', H', J, rv, q⟩ := hs
      exact ⟨v, H', J.os, J.bare, J.base, J.hok, rv, q⟩
    | next =>
      obtain ⟨σ', H', J, q⟩ := hs
      exact ⟨V.non, H', J.os, J.bare, J.base, J.hok, rfl, q⟩
    | brk =>
      obtain ⟨_, _, _, q⟩ := hs
      exact q.elim
    | cont =>
      obtain ⟨_, _, _, q⟩ := hs
      exact q.elim
  · intro e s' hs
    exact hs

/-! ### a call by values of a def -/
section
variable {X : Cx} {CX : CXT} {k : Nat} {f C : Addr} {fd : FuncData} {ps : List Str} {sp : Sp} {dvs : List V} {ds : List Value} {E : XK}
theorem FnG.callR {b : Bool} (F : FnG b X.prog X.w X.K X.mg X.base CX k f fd ps sp) (hr : RoomG b k X.A) (hb : Binds X.K fd ps ds) (hd : Vals dvs ds) (hx : Passes CX X E) :
    CallR X (.ref f) (fun vs H Q => sp (vs ++ dvs) H Q E) := by
  intro pins s σ H vs us Q I r h
  have r2 : Vals (vs ++ dvs) (us ++ ds) := r.append hd
  have hl : (us ++ ds).length = ps.length := by
    rw [← r2.length]
    exact F.len _ _ _ _ h
  refine wpAny_call (codeAny_mono (F.run X.A X.stack s H ⟨us, []⟩ (us ++ ds) (vs ++ dvs) Q E hr I.env0 (hb s us I.kIn hl) r2 h) ?_)
  intro r s' hq
  cases r with
  | error e => exact hx pins σ H s e s' I hq
  | ok fl =>
    cases fl with
    | ret u => exact I.after hq
    | next => exact hq.elim
    | brk => exact hq.elim
    | cont => exact hq.elim
variable {x : Str} {p pos : Pos} {e : Expr} {es : List Expr} {t : TA} {r : List V → Hp → VK → Prop}
/-- g(e, ..), g a name of the module that holds a kept object -/
theorem pe_callO (hc : CallR X (.ref f) r) (hm : X.mg x = some (.ref f)) (hk : PySem.W.keepIn X.K (.ref f) = true) (ha : PA X (e :: es) t) (hg : Gl X x := by rfl)
    (hdb : (x == ("__debug__" : Str)) = false := by decide) (he : starEach (e :: es) X.env = (false, eval e X.env) :: starEach es X.env := by rfl)
    (hpl : (backTo pos (starEach es X.env)).any (·.1) = false := by rfl) : PE X (.Call (.Name x p) (e :: es) [] pos) (tCB r t) := by
  constructor
  intro pins s σ H Q I h
  refine wpAny_Call_Name_kw (ld_glob I hg hm ?_ hdb)
  refine PySem.W.callWith_K (h₀ := X.base) I.ok.mod.kin hk (thn (ha.run pos pins s σ H _ I h) ?_) he hpl
  rintro us s1 ⟨vs, H1, I1, r, q⟩
  exact ⟨I1.kIn, hc pins s1 σ H1 vs us Q I1 r q⟩
theorem pe_callO0 (hc : CallR X (.ref f) r) (hm : X.mg x = some (.ref f)) (hk : PySem.W.keepIn X.K (.ref f) = true) (hg : Gl X x := by rfl)
    (hdb : (x == ("__debug__" : Str)) = false := by decide) : PE X (.Call (.Name x p) [] [] pos) (tCB r tNil) := by
  constructor
  intro pins s σ H Q I h
  refine wpAny_Call_Name_kw (ld_glob I hg hm ?_ hdb)
  exact PySem.W.callWith_K0 I.kIn hk (hc pins s σ H [] [] Q I .nil h)
end
end Pb
namespace Pb
open PySem PySem.Spec PyProof.Rows L2

/-! ### a def of the text -/
abbrev Fd (K : PySem.W.Frag) (x qual : Str) (st : Stmt) (f : Addr) (fd : FuncData) : Prop := FunD K x qual (defArgs st) (defBody st) (defScope st) [] [] f fd
section
variable {P : Program} {w : World} {K : PySem.W.Frag} {mg : Str → Option Value} {base : Heap} {x qual : Str} {params : Arguments} {body : List Stmt} {scope : Scope} {dvs : List V} {kws : List (Str × V)} {f : Addr} {fd : FuncData}
theorem okG {b : Bool} {CX : CXT} {N ps : List Str} {k : Nat} {sp : Sp} (F : FunD K x qual params body scope dvs kws f fd) (S : FnScope N ps scope) (len : ∀ vs H Q E, sp vs H Q E → vs.length = ps.length)
    (hbody : ∀ (cdv : Value) (A : Around) (outer : List Env) (s : Shared) (H : Hp) (vs : List V) (Q : VK) (E : XK),
      RoomG b k (A.deeper (envOfC qual scope s.heap.objs.size f cdv)) → sp vs H Q E →
      ∃ t, PSs (cxOf CX P w K mg base N qual scope f cdv A outer s H E) body t ∧ t { nx := fun _ H' => Q .non H', rt := Q } (start N vs) H) :
    FnG b P w K mg base CX (k + 1) f fd ps sp := by
  obtain ⟨oc, od, dV, kV, doc, pm, an, cdv, ct, osl, rfl, lk, hcd, _, _⟩ := F.ex
  exact fnG_of lk hcd S len fun A outer s H vs Q E hr hsp => hbody cdv A outer s H vs Q E hr hsp
/-- .. out of which nothing is raised -/
theorem okG0 {b : Bool} {N ps : List Str} {k : Nat} {sp : Sp} (F : FunD K x qual params body scope dvs kws f fd) (S : FnScope N ps scope) (len : ∀ vs H Q E, sp vs H Q E → vs.length = ps.length)
    (hbody : ∀ (cdv : Value) (A : Around) (outer : List Env) (s : Shared) (H : Hp) (vs : List V) (Q : VK) (E : XK),
      RoomG b k (A.deeper (envOfC qual scope s.heap.objs.size f cdv)) → sp vs H Q E →
      ∃ t, PSs (cxOf CX0 P w K mg base N qual scope f cdv A outer s H E).nox body t ∧ t { nx := fun _ H' => Q .non H', rt := Q } (start N vs) H) :
    FnG b P w K mg base CX0 (k + 1) f fd ps sp := by
  refine okG F S len fun cdv A outer s H vs Q E hr hsp => ?_
  obtain ⟨t, h, q⟩ := hbody cdv A outer s H vs Q E hr hsp
  exact ⟨t, h.nox, q⟩
end
/-- a global name x that holds a def with the promise sp -/
structure Cal (b : Bool) (P : Program) (w : World) (K : PySem.W.Frag) (mg : Str → Option Value) (base : Heap) (CX : CXT) (k : Nat) (st : Stmt) (x : Str) (ps : List Str) (sp : Sp) : Prop where
  ex : ∃ f fd, mg x = some (.ref f) ∧ Fd K x x st f fd ∧ Binds K fd ps [] ∧ FnG b P w K mg base CX k f fd ps sp
/-- how the arguments are bound: positional values us, values ws of keywords named ks; the parameters' order by g -/
def Bnd (x qual : Str) (st : Stmt) (ps ks : List Str) (n : Nat) (g : {α : Type} → List α → List α → List α) : Prop :=
  ∀ (kV doc pm : Value) (an : Option Addr) (cdv ct : Value) (us ws : List Value), us.length = n → ws.length = ks.length →
    bindArgs (PySem.W.fnOf x qual (defArgs st) (defBody st) (defScope st) .none kV doc pm an cdv ct) ⟨us, ks.zip ws⟩ = pure (ps.zip (g us ws))
section
variable {X : Cx} {CX : CXT} {j k n : Nat} {st : Stmt} {f : Addr} {fd : FuncData} {ps ks : List Str} {sp : Sp} {E : XK} {x qual : Str} {p pos : Pos} {e : Expr} {es : List Expr} {kws : List Keyword} {t tk : TA}
/-- x(e, ..) -/
theorem pe_cal {b b2 : Bool} (c : Cal b X.prog X.w X.K X.mg X.base CX k st x ps sp) (hr : RoomG b2 j X.A) (hx : Passes CX X E) (ha : PA X (e :: es) t) (hk : k ≤ j := by decide) (hbb : (!b || b2) = true := by rfl) (hg : Gl X x := by rfl)
    (hdb : (x == ("__debug__" : Str)) = false := by decide) (he : starEach (e :: es) X.env = (false, eval e X.env) :: starEach es X.env := by rfl)
    (hpl : (backTo pos (starEach es X.env)).any (·.1) = false := by rfl) :
    PE X (.Call (.Name x p) (e :: es) [] pos) (tCB (fun vs H Q => sp vs H Q E) t) := by
  obtain ⟨f, fd, hm, F, hb, G⟩ := c.ex
  have hc := G.callR (RoomG.sub (hr.mono hk) hbb) hb .nil hx
  simp only [List.append_nil] at hc
  exact pe_callO hc hm F.kp ha hg hdb he hpl
theorem pe_cal0 {b b2 : Bool} (c : Cal b X.prog X.w X.K X.mg X.base CX k st x ps sp) (hr : RoomG b2 j X.A) (hx : Passes CX X E) (hk : k ≤ j := by decide) (hbb : (!b || b2) = true := by rfl) (hg : Gl X x := by rfl)
    (hdb : (x == ("__debug__" : Str)) = false := by decide) : PE X (.Call (.Name x p) [] [] pos) (tCB (fun vs H Q => sp vs H Q E) tNil) := by
  obtain ⟨f, fd, hm, F, hb, G⟩ := c.ex
  have hc := G.callR (RoomG.sub (hr.mono hk) hbb) hb .nil hx
  simp only [List.append_nil] at hc
  exact pe_callO0 hc hm F.kp hg hdb
theorem FnG.runK {b : Bool} {pins : List (Addr × Obj)} {σ : L2.St} {H : Hp} {s : Shared} {Q : VK} {us ws zs : List Value} {vs : List V} {kw : List (Str × Value)} (F : FnG b X.prog X.w X.K X.mg X.base CX k f fd ps sp)
    (hr : RoomG b k X.A) (hx : Passes CX X E) (hb : BindsTo s fd ⟨us, kw⟩ (ps.zip zs)) (I : Inv X pins σ H s) (r : Vals vs zs) (h : sp vs H Q E) :
    wpAny (model X.prog X.w) X.A (call (.ref f) us kw) (EP X pins σ Q) X.xe s := by
  refine wpAny_call (codeAny_mono (F.run X.A X.stack s H ⟨us, kw⟩ zs vs Q E hr I.env0 hb r h) ?_)
  intro r s' hq
  cases r with
  | error e => exact hx pins σ H s e s' I hq
  | ok fl =>
    cases fl with
    | ret u => exact I.after hq
    | next => exact hq.elim
    | brk => exact hq.elim
    | cont => exact hq.elim
/-- the reading of a call with keywords -/
def tCK (g : {α : Type} → List α → List α → List α) (n m : Nat) (r : List V → Hp → VK → Prop) (t tk : TA) : TE := fun σ H Q => t σ H fun vs H1 => tk σ H1 fun zs H2 => (vs.length = n ∧ zs.length = m) ∧ r (g vs zs) H2 Q
theorem Fd.bnd {K : PySem.W.Frag} {g : {α : Type} → List α → List α → List α} (F : Fd K x qual st f fd) (hb : Bnd x qual st ps ks n g) {s : Shared} {us ws : List Value} (h1 : us.length = n) (h2 : ws.length = ks.length) :
    BindsTo s fd ⟨us, ks.zip ws⟩ (ps.zip (g us ws)) := by
  obtain ⟨oc, od, dV, kV, doc, pm, an, cdv, ct, osl, rfl, lk, hcd, hD, hK⟩ := F.ex
  rcases hD with ⟨_, rfl⟩ | ⟨e, _⟩
  · exact .of_eq (hb kV doc pm an cdv ct us ws h1 h2)
  · exact absurd rfl e
/-- x(e, .., k = v, ..) -/
theorem pe_calK {g : {α : Type} → List α → List α → List α} {b b2 : Bool} (c : Cal b X.prog X.w X.K X.mg X.base CX k st x ps sp) (hr : RoomG b2 j X.A) (hx : Passes CX X E)
    (hb : Bnd x x st ps ks n g) (hrel : ∀ {vs zs : List V} {us ws : List Value}, Vals vs us → Vals zs ws → Vals (g vs zs) (g us ws)) (ha : PA X (e :: es) t) (hkw : PK X kws tk) (hk : k ≤ j := by decide) (hbb : (!b || b2) = true := by rfl) (hg : Gl X x := by rfl)
    (hall : (backToKw pos (keywordEach kws X.env)).all (·.1.isSome) = true := by rfl) (hks : (backToKw pos (keywordEach kws X.env)).filterMap (·.1) = ks := by rfl)
    (hdb : (x == ("__debug__" : Str)) = false := by decide) (he : starEach (e :: es) X.env = (false, eval e X.env) :: starEach es X.env := by rfl)
    (hpl : ((backTo pos (starEach (e :: es) X.env)).any (·.1) || (backToKw pos (keywordEach kws X.env)).any (·.1.isNone)) = false := by rfl) :
    PE X (.Call (.Name x p) (e :: es) kws pos) (tCK g n ks.length (fun vs H Q => sp vs H Q E) t tk) := by
  obtain ⟨f, fd, hm, F, _, G⟩ := c.ex
  constructor
  intro pins s σ H Q I h
  refine wpAny_Call_Name_kw (ld_glob I hg hm ?_ hdb)
  refine PySem.W.callWith_KW (h₀ := X.base) I.ok.mod.kin F.kp hall (thn (ha.run pos pins s σ H _ I h) ?_) hpl he
  rintro us s1 ⟨vs, H1, I1, r, q⟩
  refine thn (hkw.run pos pins s1 σ H1 _ I1 q) ?_
  rintro ws s2 ⟨zs, H2, I2, rz, ⟨l1, l2⟩, q2⟩
  refine ⟨I2.kIn, ?_⟩
  rw [hks]
  exact G.runK (us := us) (ws := ws) (RoomG.sub (hr.mono hk) hbb) hx (F.bnd hb (r.length.symm.trans l1) (rz.length.symm.trans l2)) I2 (hrel r rz) q2
theorem pe_calK0 {g : {α : Type} → List α → List α → List α} {b b2 : Bool} (c : Cal b X.prog X.w X.K X.mg X.base CX k st x ps sp) (hr : RoomG b2 j X.A) (hx : Passes CX X E)
    (hb : Bnd x x st ps ks 0 g) (hrel : ∀ {vs zs : List V} {us ws : List Value}, Vals vs us → Vals zs ws → Vals (g vs zs) (g us ws)) (hkw : PK X kws tk) (hk : k ≤ j := by decide) (hbb : (!b || b2) = true := by rfl) (hg : Gl X x := by rfl)
    (hall : (backToKw pos (keywordEach kws X.env)).all (·.1.isSome) = true := by rfl) (hks : (backToKw pos (keywordEach kws X.env)).filterMap (·.1) = ks := by rfl)
    (hdb : (x == ("__debug__" : Str)) = false := by decide)
    (hpl : ((backTo pos (starEach [] X.env)).any (·.1) || (backToKw pos (keywordEach kws X.env)).any (·.1.isNone)) = false := by rfl) :
    PE X (.Call (.Name x p) [] kws pos) (tCK g 0 ks.length (fun vs H Q => sp vs H Q E) tNil tk) := by
  obtain ⟨f, fd, hm, F, _, G⟩ := c.ex
  constructor
  intro pins s σ H Q I h
  refine wpAny_Call_Name_kw (ld_glob I hg hm ?_ hdb)
  refine PySem.W.callWith_KW0 (h₀ := X.base) I.ok.mod.kin F.kp hall (thn (hkw.run pos pins s σ H _ I h) ?_) hpl
  rintro ws s2 ⟨zs, H2, I2, rz, ⟨l1, l2⟩, q2⟩
  refine ⟨I2.kIn, ?_⟩
  rw [hks]
  exact G.runK (us := []) (ws := ws) (RoomG.sub (hr.mono hk) hbb) hx (F.bnd hb rfl (rz.length.symm.trans l2)) I2 (hrel .nil rz) q2
end
/-- the keywords stand behind the positional values -/
abbrev gApp : {α : Type} → List α → List α → List α := fun us ws => us ++ ws
theorem rel_app {vs zs : List V} {us ws : List Value} (h1 : Vals vs us) (h2 : Vals zs ws) : Vals (gApp vs zs) (gApp us ws) := h1.append h2

/-! ### walked things, several kinds -/
theorem PI.or {X : Cx} {tg it : Expr} {w1 w2 : TI} (h1 : PI X tg it w1) (h2 : PI X tg it w2) : PI X tg it (fun σ H R => w1 σ H R ∨ w2 σ H R) := by
  constructor
  intro pins s σ H R I h
  rcases h with h | h
  · exact h1.run pins s σ H R I h
  · exact h2.run pins s σ H R I h
/-- a list, a tuple or a text, by its value -/
def iSeq (K : PySem.W.Frag) (te : TE) : TI := fun σ H R => iList K te σ H R ∨ iTup K te σ H R ∨ iStr te σ H R
theorem pi_seq {X : Cx} {tg l : Expr} {te : TE} (h : PE X l te) : PI X tg l (iSeq X.K te) := PI.or (pi_list h) (PI.or (pi_tup h) (pi_str h))
end Pb
namespace Pb
open PySem PySem.Spec PyProof.Rows L2

/-! ### data, without addresses -/
inductive Dt where
  | non
  | bl (b : Bool)
  | int (i : Int)
  | str (x : Str)
  | lst (xs : List Dt)
  | tup (xs : List Dt)
  | dic (ks : List Key) (ds : List Dt)
  | obj (c : Str) (ns : List Str) (ds : List Dt)
  | err (c : Str) (ns : List Str) (ds : List Dt)
  | pen
/-- what stands fixed: the written part, the module's names, where the pen lies -/
structure Wc where
  K : PySem.W.Frag
  mg : Str → Option Value
  a : Addr
  l : Addr
  ns : List Int
  T : List (Addr × Str)
  er : Option (Addr × Addr × Addr) := none
/-- a tuple: one that is not of av, or one of the written part -/
def TupAt (K : PySem.W.Frag) (av : Addr → Prop) (H : Hp) (p : Addr) (vs : List V) : Prop := (¬ av p ∧ Rd H p (.tup vs)) ∨
  ∃ (o : Obj) (its : Array Value) (n : Nat), K.lookup p = some o ∧ o.cls = .type "tuple" ∧ o.data = .seq its n ∧ its.size ≤ sizeLine ∧ Vals vs its.toList
theorem TupAt.sq {K : PySem.W.Frag} {av : Addr → Prop} {H : Hp} {p : Addr} {vs : List V} (h : TupAt K av H p vs) : SqT K H p vs := by
  rcases h with ⟨_, h⟩ | h
  · exact .inl h
  · exact .inr h
theorem TupAt.less {K : PySem.W.Frag} {av av' : Addr → Prop} {H : Hp} {p : Addr} {vs : List V} (k : ∀ p, av' p → av p) (h : TupAt K av H p vs) : TupAt K av' H p vs := by
  rcases h with ⟨h1, h2⟩ | h
  · exact .inl ⟨fun z => h1 (k _ z), h2⟩
  · exact .inr h
theorem TupAt.more {K : PySem.W.Frag} {av : Addr → Prop} {H : Hp} {p q : Addr} {vs : List V} (hq : H q = none) (h : TupAt K av H p vs) : TupAt K (fun p => av p ∨ p = q) H p vs := by
  rcases h with ⟨h1, h2⟩ | h
  · refine .inl ⟨fun z => z.elim h1 fun e => ?_, h2⟩
    rw [e] at h2
    rcases h2 with h2 | ⟨o, h2⟩
    · rw [hq] at h2; cases h2
    · rw [hq] at h2; cases h2
  · exact .inr h
/-- an own error of the class at C with these fields: the one that is held (er tells it, its class and its dict), or one that is a value -/
def ErAt (c : Wc) (av : Addr → Prop) (H : Hp) (p C : Addr) (fs : List (Str × V)) : Prop := (∃ dd, c.er = some (p, C, dd) ∧ ¬ av dd ∧ H dd = some (.xd fs)) ∨
  ∃ dd, ¬ av p ∧ ¬ av dd ∧ H p = some (exo p C (some dd)) ∧ H dd = some (exd dd fs)
theorem ErAt.less {c : Wc} {av av' : Addr → Prop} {H : Hp} {p C : Addr} {fs : List (Str × V)} (k : ∀ p, av' p → av p) (h : ErAt c av H p C fs) : ErAt c av' H p C fs := by
  rcases h with ⟨dd, h1, h2, h3⟩ | ⟨dd, h1, h2, h3, h4⟩
  · exact .inl ⟨dd, h1, fun z => h2 (k _ z), h3⟩
  · exact .inr ⟨dd, fun z => h1 (k _ z), fun z => h2 (k _ z), h3, h4⟩
theorem ErAt.more {c : Wc} {av : Addr → Prop} {H : Hp} {p C q : Addr} {fs : List (Str × V)} (hq : H q = none) (h : ErAt c av H p C fs) : ErAt c (fun p => av p ∨ p = q) H p C fs := by
  rcases h with ⟨dd, h1, h2, h3⟩ | ⟨dd, h1, h2, h3, h4⟩
  · refine .inl ⟨dd, h1, fun z => z.elim h2 fun e => ?_, h3⟩
    rw [e, hq] at h3
    cases h3
  · refine .inr ⟨dd, fun z => z.elim h1 fun e => ?_, fun z => z.elim h2 fun e => ?_, h3, h4⟩
    · rw [e, hq] at h3
      cases h3
    · rw [e, hq] at h4
      cases h4
mutual
/-- a value is this data; no object of it is one of av -/
inductive Da (c : Wc) (av : Addr → Prop) (H : Hp) : V → Dt → Prop
  | non : Da c av H .non .non
  | bl (b : Bool) : Da c av H (.bl b) (.bl b)
  | int (i : Int) : Da c av H (.int i) (.int i)
  | str (x : Str) : Da c av H (.str x) (.str x)
  | lst {p : Addr} {vs : List V} {ds : List Dt} : ¬ av p → H p = some (.lst vs) → DaAll c av H vs ds → Da c av H (.ref p) (.lst ds)
  | tup {p : Addr} {vs : List V} {ds : List Dt} : TupAt c.K av H p vs → DaAll c av H vs ds → Da c av H (.ref p) (.tup ds)
  | dic {p : Addr} {kvs : List (Key × V)} {ks : List Key} {ds : List Dt} : ¬ av p → H p = some (.dK kvs) → kvs.map (·.1) = ks → DaAll c av H (kvs.map (·.2)) ds → Da c av H (.ref p) (.dic ks ds)
  | obj {p C dx : Addr} {cn : Str} {fs : List (Str × V)} {ns : List Str} {ds : List Dt} : ¬ av p → c.mg cn = some (.ref C) → H p = some (.ins C dx fs) → fs.map (·.1) = ns → DaAll c av H (fs.map (·.2)) ds → Da c av H (.ref p) (.obj cn ns ds)
  | err {p C : Addr} {cn : Str} {fs : List (Str × V)} {ns : List Str} {ds : List Dt} : ErAt c av H p C fs → c.mg cn = some (.ref C) → fs.map (·.1) = ns → DaAll c av H (fs.map (·.2)) ds → Da c av H (.ref p) (.err cn ns ds)
  | pen : Da c av H (.ref c.a) .pen
inductive DaAll (c : Wc) (av : Addr → Prop) (H : Hp) : List V → List Dt → Prop
  | nil : DaAll c av H [] []
  | cons {v : V} {d : Dt} {vs : List V} {ds : List Dt} : Da c av H v d → DaAll c av H vs ds → DaAll c av H (v :: vs) (d :: ds)
end
/-- a table of code objects -/
def isT : HO → Bool
  | .tbl _ => true
  | _ => false
/-- what is not of av, and no table, stays -/
def Kp (av : Addr → Prop) (H H' : Hp) : Prop := ∀ b o, ¬ av b → H b = some o → isT o = false → H' b = some o
theorem TupAt.keep {K : PySem.W.Frag} {av : Addr → Prop} {H H' : Hp} {p : Addr} {vs : List V} (k : Kp av H H') (h : TupAt K av H p vs) : TupAt K av H' p vs := by
  rcases h with ⟨h1, h2 | ⟨o, h2⟩⟩ | h
  · exact .inl ⟨h1, .inl (k _ _ h1 h2 rfl)⟩
  · exact .inl ⟨h1, .inr ⟨o, k _ _ h1 h2 rfl⟩⟩
  · exact .inr h
theorem ErAt.keep {c : Wc} {av : Addr → Prop} {H H' : Hp} {p C : Addr} {fs : List (Str × V)} (k : Kp av H H') (h : ErAt c av H p C fs) : ErAt c av H' p C fs := by
  rcases h with ⟨dd, h1, h2, h3⟩ | ⟨dd, h1, h2, h3, h4⟩
  · exact .inl ⟨dd, h1, h2, k _ _ h2 h3 rfl⟩
  · exact .inr ⟨dd, h1, h2, k _ _ h1 h3 rfl, k _ _ h2 h4 rfl⟩
theorem Kp.refl (av : Addr → Prop) (H : Hp) : Kp av H H := fun _ _ _ h _ => h
theorem Kp.trans {av : Addr → Prop} {H H1 H2 : Hp} (x : Kp av H H1) (y : Kp av H1 H2) : Kp av H H2 := fun b o hb h t => y b o hb (x b o hb h t) t
theorem Kp.more {av av' : Addr → Prop} {H H' : Hp} (x : Kp av H H') (k : ∀ p, av p → av' p) : Kp av' H H' := fun b o hb h t => x b o (fun z => hb (k _ z)) h t
section
variable {c : Wc} {av av' : Addr → Prop} {H H' : Hp}
mutual
theorem Da.keep (k : Kp av H H') : ∀ (d : Dt) (v : V), Da c av H v d → Da c av H' v d
  | .non, _, h => by cases h; exact .non
  | .bl _, _, h => by cases h; exact .bl _
  | .int _, _, h => by cases h; exact .int _
  | .str _, _, h => by cases h; exact .str _
  | .lst ds, _, h => by
    cases h with
    | lst h1 h2 h3 => exact .lst h1 (k _ _ h1 h2 rfl) (DaAll.keep k ds _ h3)
  | .tup ds, _, h => by
    cases h with
    | tup h2 h3 => exact .tup (h2.keep k) (DaAll.keep k ds _ h3)
  | .dic ks ds, _, h => by
    cases h with
    | dic h1 h2 h3 h4 => exact .dic h1 (k _ _ h1 h2 rfl) h3 (DaAll.keep k ds _ h4)
  | .obj cn ns ds, _, h => by
    cases h with
    | obj h1 h2 h3 h4 h5 => exact .obj h1 h2 (k _ _ h1 h3 rfl) h4 (DaAll.keep k ds _ h5)
  | .err cn ns ds, _, h => by
    cases h with
    | err h1 h2 h3 h4 => exact .err (h1.keep k) h2 h3 (DaAll.keep k ds _ h4)
  | .pen, _, h => by cases h; exact .pen
theorem DaAll.keep (k : Kp av H H') : ∀ (ds : List Dt) (vs : List V), DaAll c av H vs ds → DaAll c av H' vs ds
  | [], _, h => by cases h; exact .nil
  | d :: ds, _, h => by
    cases h with
    | cons h1 h2 => exact .cons (Da.keep k d _ h1) (DaAll.keep k ds _ h2)
end
mutual
theorem Da.less (k : ∀ p, av' p → av p) : ∀ (d : Dt) (v : V), Da c av H v d → Da c av' H v d
  | .non, _, h => by cases h; exact .non
  | .bl _, _, h => by cases h; exact .bl _
  | .int _, _, h => by cases h; exact .int _
  | .str _, _, h => by cases h; exact .str _
  | .lst ds, _, h => by
    cases h with
    | lst h1 h2 h3 => exact .lst (fun z => h1 (k _ z)) h2 (DaAll.less k ds _ h3)
  | .tup ds, _, h => by
    cases h with
    | tup h2 h3 => exact .tup (h2.less k) (DaAll.less k ds _ h3)
  | .dic ks ds, _, h => by
    cases h with
    | dic h1 h2 h3 h4 => exact .dic (fun z => h1 (k _ z)) h2 h3 (DaAll.less k ds _ h4)
  | .obj cn ns ds, _, h => by
    cases h with
    | obj h1 h2 h3 h4 h5 => exact .obj (fun z => h1 (k _ z)) h2 h3 h4 (DaAll.less k ds _ h5)
  | .err cn ns ds, _, h => by
    cases h with
    | err h1 h2 h3 h4 => exact .err (h1.less k) h2 h3 (DaAll.less k ds _ h4)
  | .pen, _, h => by cases h; exact .pen
theorem DaAll.less (k : ∀ p, av' p → av p) : ∀ (ds : List Dt) (vs : List V), DaAll c av H vs ds → DaAll c av' H vs ds
  | [], _, h => by cases h; exact .nil
  | d :: ds, _, h => by
    cases h with
    | cons h1 h2 => exact .cons (Da.less k d _ h1) (DaAll.less k ds _ h2)
end

mutual
theorem Da.more {q : Addr} (hq : H q = none) : ∀ (d : Dt) (v : V), Da c av H v d → Da c (fun p => av p ∨ p = q) H v d
  | .non, _, h => by cases h; exact .non
  | .bl _, _, h => by cases h; exact .bl _
  | .int _, _, h => by cases h; exact .int _
  | .str _, _, h => by cases h; exact .str _
  | .lst ds, _, h => by
    cases h with
    | lst h1 h2 h3 =>
      refine .lst (fun z => z.elim h1 fun e => ?_) h2 (DaAll.more hq ds _ h3)
      rw [e, hq] at h2
      cases h2
  | .tup ds, _, h => by
    cases h with
    | tup h2 h3 => exact .tup (h2.more hq) (DaAll.more hq ds _ h3)
  | .dic ks ds, _, h => by
    cases h with
    | dic h1 h2 h3 h4 =>
      refine .dic (fun z => z.elim h1 fun e => ?_) h2 h3 (DaAll.more hq ds _ h4)
      rw [e, hq] at h2
      cases h2
  | .obj cn ns ds, _, h => by
    cases h with
    | obj h1 h2 h3 h4 h5 =>
      refine .obj (fun z => z.elim h1 fun e => ?_) h2 h3 h4 (DaAll.more hq ds _ h5)
      rw [e, hq] at h3
      cases h3
  | .err cn ns ds, _, h => by
    cases h with
    | err h1 h2 h3 h4 => exact .err (h1.more hq) h2 h3 (DaAll.more hq ds _ h4)
  | .pen, _, h => by cases h; exact .pen
theorem DaAll.more {q : Addr} (hq : H q = none) : ∀ (ds : List Dt) (vs : List V), DaAll c av H vs ds → DaAll c (fun p => av p ∨ p = q) H vs ds
  | [], _, h => by cases h; exact .nil
  | d :: ds, _, h => by
    cases h with
    | cons h1 h2 => exact .cons (Da.more hq d _ h1) (DaAll.more hq ds _ h2)
end
end
end Pb
namespace Pb
open PySem PySem.Spec PyProof.Rows L2

/-! ### the pen, and what a body knows -/
def penLine : Nat := 4194304
/-- the pen at a, its numbers at l, is good for n draws more -/
def Pen (a l : Addr) (ns : List Int) (T : List (Addr × Str)) (n : Nat) (H : Hp) : Prop := ∃ (i r : Int), H a = some (.lst [.ref l, .int i, .int r]) ∧ H l = some (.lst (ns.map V.int)) ∧ l ≠ a ∧ ns.length ≤ 63 ∧ 0 ≤ i ∧ i + n ≤ (penLine : Int) ∧ LamX.Tabs T H
/-- all objects but the pen stay -/
def Stp (a : Addr) (H H' : Hp) : Prop := ∀ b o, b ≠ a → H b = some o → isT o = false → H' b = some o
theorem Stp.refl (a : Addr) (H : Hp) : Stp a H H := fun _ _ _ h _ => h
theorem Stp.trans {a : Addr} {H H1 H2 : Hp} (x : Stp a H H1) (y : Stp a H1 H2) : Stp a H H2 := fun b o hb h t => y b o hb (x b o hb h t) t
theorem Stp.same {a : Addr} {H H' : Hp} (x : Same H H') : Stp a H H' := fun b o _ h _ => x b o h
theorem Stp.kp {a : Addr} {av : Addr → Prop} {H H' : Hp} (x : Stp a H H') (ha : av a) : Kp av H H' := fun b o hb h t => x b o (fun e => hb (e ▸ ha)) h t
theorem same_kp {av : Addr → Prop} {H H' : Hp} (x : Same H H') : Kp av H H' := fun b o _ h _ => x b o h
theorem same_new {H : Hp} {p : Addr} {o : HO} (h : H p = none) : Same H (upd H p o) := fun a u e => by
  rw [upd_ne (ne_of_none e h)]
  exact e
theorem Pen.same {a l : Addr} {ns : List Int} {T : List (Addr × Str)} {n : Nat} {H H' : Hp} (x : Same H H') (h : Pen a l ns T n H) : Pen a l ns T n H' := by
  obtain ⟨i, r, h1, h2, h3, h4, h5, h6, h7⟩ := h
  exact ⟨i, r, x _ _ h1, x _ _ h2, h3, h4, h5, h6, h7.ext x⟩
theorem Pen.less {a l : Addr} {ns : List Int} {T : List (Addr × Str)} {m n : Nat} {H : Hp} (h : Pen a l ns T n H) (hm : m ≤ n) : Pen a l ns T m H := by
  obtain ⟨i, r, h1, h2, h3, h4, h5, h6, h7⟩ := h
  exact ⟨i, r, h1, h2, h3, h4, h5, by omega, h7⟩
/-- an object that is no table and no code object changes: the tables stay -/
def isC : HO → Bool
  | .ext _ => true
  | _ => false
theorem Tabs.upd {T : List (Addr × Str)} {H : Hp} {p : Addr} {o u : HO} (h : LamX.Tabs T H) (hp : H p = some o) (ht : isT o = false) (hc : isC o = false) : LamX.Tabs T (upd H p u) := by
  intro q hq
  obtain ⟨ps, a1, a2, a3⟩ := h q hq
  refine ⟨ps, ?_, a2, fun pos cv hcv => ?_⟩
  · rw [upd_ne fun z => ?_]
    · exact a1
    · rw [z, hp] at a1
      cases a1
      cases ht
  · obtain ⟨x, e1, e2⟩ := a3 pos cv hcv
    refine ⟨x, e1, ?_⟩
    rw [upd_ne fun z => ?_]
    · exact e2
    · rw [z, hp] at e2
      unfold LamX.CodeO at e2
      cases e2
      cases hc
theorem Pen.upd {a l : Addr} {ns : List Int} {T : List (Addr × Str)} {n : Nat} {H : Hp} {p : Addr} {o u : HO} (h : Pen a l ns T n H) (ha : p ≠ a) (hl : p ≠ l) (hp : H p = some o) (ht : isT o = false) (hc : isC o = false) : Pen a l ns T n (upd H p u) := by
  obtain ⟨i, r, h1, h2, h3, h4, h5, h6, h7⟩ := h
  exact ⟨i, r, by rw [upd_ne ha.symm]; exact h1, by rw [upd_ne hl.symm]; exact h2, h3, h4, h5, h6, Tabs.upd h7 hp ht hc⟩
def Live (av : Addr → Prop) (H : Hp) : Prop := ∀ p, av p → ∃ o, H p = some o ∧ isT o = false
theorem Live.stp {a : Addr} {av : Addr → Prop} {H H' : Hp} (x : Stp a H H') (ha : ∃ o, H' a = some o ∧ isT o = false) (h : Live av H) : Live av H' := fun p hp => by
  by_cases e : p = a
  · rw [e]; exact ha
  · obtain ⟨o, q, t⟩ := h p hp
    exact ⟨o, x p o e q t, t⟩
theorem Live.same {av : Addr → Prop} {H H' : Hp} (x : Same H H') (h : Live av H) : Live av H' := fun p hp => by
  obtain ⟨o, q, t⟩ := h p hp
  exact ⟨o, x p o q, t⟩
theorem Live.new {av : Addr → Prop} {H : Hp} {p : Addr} (h : Live av H) (hp : H p = none) : ¬ av p := fun z => by
  obtain ⟨o, q, _⟩ := h p z
  rw [hp] at q
  cases q
theorem Pen.live {a l : Addr} {ns : List Int} {T : List (Addr × Str)} {n : Nat} {H : Hp} (h : Pen a l ns T n H) : ∃ o, H a = some o ∧ isT o = false := by
  obtain ⟨i, r, h1, _⟩ := h
  exact ⟨_, h1, rfl⟩
theorem Pen.ne {a l : Addr} {ns : List Int} {T : List (Addr × Str)} {n : Nat} {H : Hp} (h : Pen a l ns T n H) {p : Addr} (hp : H p = none) : p ≠ a ∧ p ≠ l := by
  obtain ⟨i, r, h1, h2, _⟩ := h
  refine ⟨fun z => ?_, fun z => ?_⟩
  · rw [← z, hp] at h1
    cases h1
  · rw [← z, hp] at h2
    cases h2
/-- nothing but a table, if anything, stands there -/
def Fr (H : Hp) (p : Addr) : Prop := ∀ o, H p = some o → isT o = true
theorem fr_none {H : Hp} {p : Addr} (h : H p = none) : Fr H p := fun o e => by rw [h] at e; cases e

/-- what a slot holds: unknown, data, a list of one's own (out: it was made ahead of the loop) -/
inductive Sl where
  | un
  | da (d : Dt)
  | ol (out : Bool) (ds : List Dt)
/-- fixed through a body: what it may raise -/
structure Fc extends Wc where
  E : XK
  xk : Str → List (Str × Dt) → Nat → Prop
/-- where a body, or a loop, began: the heap, what was kept apart then, what may change, the lists of one's own; rv: what the callers keep apart -/
structure Rt where
  H0 : Hp
  av0 : Addr → Prop
  mt : Addr → Prop
  oo : Nat → Addr
  rv : Addr → Prop
  ln : Nat
/-- how errors leave -/
def Exk (c : Fc) (ρ : Rt) : Prop := ∀ (cn : Str) (C x : Addr) (H' : Hp) (fs : List (Str × V)) (es : List (Str × Dt)) (n' : Nat), c.mg cn = some (.ref C) → Kp ρ.mt ρ.H0 H' → Pen c.a c.l c.ns c.T n' H' → ¬ ρ.rv x → H' x = some (.xd fs) →
  fs.map (·.1) = es.map (·.1) → DaAll c.toWc ρ.rv H' (fs.map (·.2)) (es.map (·.2)) → c.xk cn es n' → c.E (.ref C) (some x) H'
structure SS (c : Fc) (ρ : Rt) (av : Addr → Prop) (o : Nat → Addr) (Γ : List Sl) (n : Nat) (σ : L2.St) (H : Hp) : Prop where
  len : σ.length = Γ.length
  gl : Γ.length = ρ.ln
  pa : av c.a
  pl : ¬ av c.l
  pm : ρ.mt c.a
  sub : ∀ p, ρ.av0 p → av p
  rsub : ∀ p, ρ.rv p → av p
  msub : ∀ p, ρ.mt p → av p
  asub : ∀ p, av p → ρ.av0 p ∨ ρ.mt p ∨ Fr ρ.H0 p
  live : Live av H
  live0 : Live ρ.av0 ρ.H0
  pen : Pen c.a c.l c.ns c.T n H
  kp : Kp ρ.mt ρ.H0 H
  ex : Exk c ρ
  dat : ∀ (i : Nat) (d : Dt), Γ[i]? = some (Sl.da d) → ∃ v, σ[i]? = some (some v) ∧ Da c.toWc av H v d
  own : ∀ (i : Nat) (b : Bool) (ds : List Dt), Γ[i]? = some (Sl.ol b ds) → σ[i]? = some (some (.ref (o i))) ∧ av (o i) ∧ (if b = true then ρ.mt (o i) ∧ o i = ρ.oo i else Fr ρ.H0 (o i) ∧ ¬ ρ.mt (o i)) ∧ (o i ≠ c.a ∧ o i ≠ c.l) ∧ ¬ ρ.rv (o i) ∧ ∃ vs, H (o i) = some (.lst vs) ∧ DaAll c.toWc av H vs ds
  inj : ∀ (i j : Nat) (b b' : Bool) (ds es : List Dt), Γ[i]? = some (Sl.ol b ds) → Γ[j]? = some (Sl.ol b' es) → o i = o j → i = j
section
variable {c : Fc} {ρ : Rt} {av : Addr → Prop} {o : Nat → Addr} {Γ : List Sl} {n n' : Nat} {σ : L2.St} {H H' : Hp}
theorem SS.stp (S : SS c ρ av o Γ n σ H) (x : Stp c.a H H') (p : Pen c.a c.l c.ns c.T n' H') : SS c ρ av o Γ n' σ H' where
  len := S.len
  gl := S.gl
  pa := S.pa
  pl := S.pl
  pm := S.pm
  sub := S.sub
  rsub := S.rsub
  msub := S.msub
  asub := S.asub
  live := S.live.stp x p.live
  live0 := S.live0
  pen := p
  kp := S.kp.trans (x.kp S.pm)
  ex := S.ex
  dat := fun i d h => by
    obtain ⟨v, h1, h2⟩ := S.dat i d h
    exact ⟨v, h1, h2.keep (x.kp S.pa)⟩
  own := fun i b ds h => by
    obtain ⟨h1, h2, h3, h4, h0, vs, h5, h6⟩ := S.own i b ds h
    exact ⟨h1, h2, h3, h4, h0, vs, x _ _ h4.1 h5 rfl, h6.keep (x.kp S.pa)⟩
  inj := S.inj
theorem SS.same (S : SS c ρ av o Γ n σ H) (x : Same H H') : SS c ρ av o Γ n σ H' := S.stp (Stp.same x) (S.pen.same x)
theorem SS.less (S : SS c ρ av o Γ n σ H) (h : n' ≤ n) : SS c ρ av o Γ n' σ H := S.stp (Stp.refl _ _) (S.pen.less h)
/-- a slot is given data -/
theorem SS.set (S : SS c ρ av o Γ n σ H) (i : Nat) {v : V} {d : Dt} (h : Da c.toWc av H v d) : SS c ρ av o (Γ.set i (.da d)) n (σ.set i (some v)) H where
  len := by rw [List.length_set, List.length_set]; exact S.len
  gl := by rw [List.length_set]; exact S.gl
  pa := S.pa
  pl := S.pl
  pm := S.pm
  sub := S.sub
  rsub := S.rsub
  msub := S.msub
  asub := S.asub
  live := S.live
  live0 := S.live0
  pen := S.pen
  kp := S.kp
  ex := S.ex
  dat := fun j e q => by
    by_cases hj : i = j
    · subst hj
      have hl : i < Γ.length := by
        have := (List.getElem?_eq_some_iff.mp q).1
        rwa [List.length_set] at this
      rw [List.getElem?_set_self hl] at q
      cases q
      exact ⟨v, List.getElem?_set_self (by rw [S.len]; exact hl), h⟩
    · rw [List.getElem?_set_ne hj] at q
      rw [List.getElem?_set_ne hj]
      exact S.dat j e q
  own := fun j b ds q => by
    by_cases hj : i = j
    · subst hj
      have hl : i < Γ.length := by
        have := (List.getElem?_eq_some_iff.mp q).1
        rwa [List.length_set] at this
      rw [List.getElem?_set_self hl] at q
      cases q
    · rw [List.getElem?_set_ne hj] at q
      rw [List.getElem?_set_ne hj]
      exact S.own j b ds q
  inj := fun j k b b' ds es q r e => by
    have l : ∀ (m : Nat) (b : Bool) (zs : List Dt), (Γ.set i (Sl.da d))[m]? = some (Sl.ol b zs) → Γ[m]? = some (Sl.ol b zs) := fun m b zs z => by
      by_cases hm : i = m
      · subst hm
        have hl : i < Γ.length := by
          have := (List.getElem?_eq_some_iff.mp z).1
          rwa [List.length_set] at this
        rw [List.getElem?_set_self hl] at z
        cases z
      · rwa [List.getElem?_set_ne hm] at z
    exact S.inj j k b b' ds es (l _ _ _ q) (l _ _ _ r) e
/-- slots are forgotten -/
theorem SS.forget {Γ' : List Sl} {σ' : L2.St} (S : SS c ρ av o Γ n σ H) (hl : σ'.length = Γ'.length) (hg : Γ'.length = Γ.length) (h : ∀ (i : Nat) (s : Sl), Γ'[i]? = some s → s = Sl.un ∨ (Γ[i]? = some s ∧ σ'[i]? = σ[i]?)) : SS c ρ av o Γ' n σ' H where
  len := hl
  gl := hg.trans S.gl
  pa := S.pa
  pl := S.pl
  pm := S.pm
  sub := S.sub
  rsub := S.rsub
  msub := S.msub
  asub := S.asub
  live := S.live
  live0 := S.live0
  pen := S.pen
  kp := S.kp
  ex := S.ex
  dat := fun i d q => (h i _ q).elim (fun z => by cases z) fun z => by rw [z.2]; exact S.dat i d z.1
  own := fun i b d q => (h i _ q).elim (fun z => by cases z) fun z => by rw [z.2]; exact S.own i b d z.1
  inj := fun i j b b' ds es q r e => (h i _ q).elim (fun z => by cases z) fun z => (h j _ r).elim (fun z => by cases z) fun z' => S.inj i j b b' ds es z.1 z'.1 e
end

/-! ### readings over data -/
abbrev Kd := Dt → Nat → Prop
def We (c : Fc) (Γ : List Sl) (n : Nat) (te : TE) (k : Kd) : Prop := ∀ ρ av o σ H, SS c ρ av o Γ n σ H → ∀ Q : VK,
  (∀ v H' d n', SS c ρ av o Γ n' σ H' → Stp c.a H H' → Da c.toWc av H' v d → k d n' → Q v H') → te σ H Q
def Wt (c : Fc) (Γ : List Sl) (n : Nat) (tt : TT) (k : Bool → Nat → Prop) : Prop := ∀ ρ av o σ H, SS c ρ av o Γ n σ H → ∀ Q : Bool → Hp → Prop,
  (∀ b H' n', SS c ρ av o Γ n' σ H' → Stp c.a H H' → k b n' → Q b H') → tt σ H Q
def Wa (c : Fc) (Γ : List Sl) (n : Nat) (ta : TA) (k : List Dt → Nat → Prop) : Prop := ∀ ρ av o σ H, SS c ρ av o Γ n σ H → ∀ Q : List V → Hp → Prop,
  (∀ vs H' ds n', SS c ρ av o Γ n' σ H' → Stp c.a H H' → DaAll c.toWc av H' vs ds → k ds n' → Q vs H') → ta σ H Q
/-- what is wanted behind a statement -/
structure Nd where
  nx : List Sl → Nat → Prop
  rt : Kd
  bk : List Sl → Nat → Prop := fun _ _ => False
  ct : List Sl → Nat → Prop := fun _ _ => False
structure Lk (c : Fc) (ρ : Rt) (N : Nd) (D : Ends) : Prop where
  nx : ∀ av o Γ n σ H, SS c ρ av o Γ n σ H → N.nx Γ n → D.nx σ H
  rt : ∀ av v H d n, (∀ p, ρ.rv p → av p) → Kp ρ.mt ρ.H0 H → Pen c.a c.l c.ns c.T n H → Da c.toWc av H v d → N.rt d n → D.rt v H
  bk : ∀ av o Γ n σ H, SS c ρ av o Γ n σ H → N.bk Γ n → D.bk σ H
  ct : ∀ av o Γ n σ H, SS c ρ av o Γ n σ H → N.ct Γ n → D.ct σ H
def Ws (c : Fc) (Γ : List Sl) (n : Nat) (ts : TS) (N : Nd) : Prop := ∀ ρ av o σ H, SS c ρ av o Γ n σ H → ∀ D, Lk c ρ N D → ts D σ H
/-- operations on values -/
def R2D (c : Fc) (n : Nat) (r : R2) (d1 d2 : Dt) (k : Dt → Prop) : Prop := ∀ av H x y, Live av H → (av c.a ∧ ¬ av c.l ∧ Pen c.a c.l c.ns c.T n H) → Da c.toWc av H x d1 → Da c.toWc av H y d2 → ∀ Q : VK, (∀ z H' d, Same H H' → Da c.toWc av H' z d → k d → Q z H') → r x y H Q
def R1D (c : Fc) (r : V → Hp → VK → Prop) (d1 : Dt) (k : Dt → Prop) : Prop := ∀ av H x, Live av H → av c.a → Da c.toWc av H x d1 → ∀ Q : VK, (∀ z H' d, Same H H' → Da c.toWc av H' z d → k d → Q z H') → r x H Q
def RCD (c : Fc) (r : List V → Hp → VK → Prop) (ds : List Dt) (n : Nat) (k : Kd) : Prop := ∀ (ρ : Rt) av H vs, Live av H → (av c.a ∧ ¬ av c.l) → ρ.mt c.a → (∀ p, ρ.rv p → av p) → Kp ρ.mt ρ.H0 H → Pen c.a c.l c.ns c.T n H → Exk c ρ →
  DaAll c.toWc av H vs ds → ∀ Q : VK, (∀ z H' d n', Stp c.a H H' → Pen c.a c.l c.ns c.T n' H' → Da c.toWc av H' z d → k d n' → Q z H') → r vs H Q

section
variable {c : Fc} {Γ : List Sl} {n : Nat} {k : Kd} {kt : Bool → Nat → Prop} {ka : List Dt → Nat → Prop} {ta tb tc te : TE} {tt tu : TT} {ts tl : TA} {r r' : R2} {d d1 d2 : Dt} {b : Bool} {i : Nat}
theorem We.mono {k' : Kd} (h : We c Γ n te k) (hk : ∀ d m, k d m → k' d m) : We c Γ n te k' := fun ρ av o σ H S Q q => h ρ av o σ H S Q fun v H' d n' S' x h' kk => q v H' d n' S' x h' (hk _ _ kk)
theorem w_var (h : Γ[i]? = some (Sl.da d)) (q : k d n) : We c Γ n (tVar i) k := by
  intro ρ av o σ H S Q hQ
  obtain ⟨v, h1, h2⟩ := S.dat i d h
  exact ⟨v, h1, hQ v H d n S (Stp.refl _ _) h2 q⟩
theorem w_non (q : k .non n) : We c Γ n (tC .non) k := fun ρ av o σ H S Q hQ => hQ _ H _ n S (Stp.refl _ _) .non q
theorem w_bl (q : k (.bl b) n) : We c Γ n (tC (.bl b)) k := fun ρ av o σ H S Q hQ => hQ _ H _ n S (Stp.refl _ _) (.bl b) q
theorem w_int {j : Int} (q : k (.int j) n) : We c Γ n (tC (.int j)) k := fun ρ av o σ H S Q hQ => hQ _ H _ n S (Stp.refl _ _) (.int j) q
theorem w_str {x : Str} (q : k (.str x) n) : We c Γ n (tC (.str x)) k := fun ρ av o σ H S Q hQ => hQ _ H _ n S (Stp.refl _ _) (.str x) q
theorem w_op (h : We c Γ n ta fun d1 n1 => We c Γ n1 tb fun d2 n2 => R2D c n2 r d1 d2 fun d => k d n2) : We c Γ n (tOp r ta tb) k := by
  intro ρ av o σ H S Q hQ
  refine h ρ av o σ H S _ fun x H1 d1 n1 S1 x1 h1 k1 => ?_
  refine k1 ρ av o σ H1 S1 _ fun y H2 d2 n2 S2 x2 h2 k2 => ?_
  refine k2 av H2 x y S2.live ⟨S2.pa, S2.pl, S2.pen⟩ (h1.keep (x2.kp S.pa)) h2 Q fun z H3 d x3 h3 k3 => ?_
  exact hQ z H3 d n2 (S2.same x3) ((x1.trans x2).trans (Stp.same x3)) h3 k3
theorem w_un {r : V → Hp → VK → Prop} (h : We c Γ n ta fun d1 n1 => R1D c r d1 fun d => k d n1) : We c Γ n (tUn r ta) k := by
  intro ρ av o σ H S Q hQ
  refine h ρ av o σ H S _ fun x H1 d1 n1 S1 x1 h1 k1 => ?_
  refine k1 av H1 x S1.live S1.pa h1 Q fun z H3 d x3 h3 k3 => ?_
  exact hQ z H3 d n1 (S1.same x3) (x1.trans (Stp.same x3)) h3 k3
theorem wa_nil (q : ka [] n) : Wa c Γ n tNil ka := fun ρ av o σ H S Q hQ => hQ _ H _ n S (Stp.refl _ _) .nil q
theorem wa_cons (h : We c Γ n ta fun d1 n1 => Wa c Γ n1 tl fun ds n2 => ka (d1 :: ds) n2) : Wa c Γ n (tCons ta tl) ka := by
  intro ρ av o σ H S Q hQ
  refine h ρ av o σ H S _ fun x H1 d1 n1 S1 x1 h1 k1 => ?_
  refine k1 ρ av o σ H1 S1 _ fun vs H2 ds n2 S2 x2 h2 k2 => ?_
  exact hQ (x :: vs) H2 (d1 :: ds) n2 S2 (x1.trans x2) (.cons (h1.keep (x2.kp S.pa)) h2) k2
theorem w_cb {r : List V → Hp → VK → Prop} (h : Wa c Γ n tl fun ds n1 => RCD c r ds n1 k) : We c Γ n (tCB r tl) k := by
  intro ρ av o σ H S Q hQ
  refine h ρ av o σ H S _ fun vs H1 ds n1 S1 x1 h1 k1 => ?_
  refine k1 ρ av H1 vs S1.live ⟨S1.pa, S1.pl⟩ S1.pm S1.rsub S1.kp S1.pen S1.ex h1 Q fun z H2 d n2 x2 p2 h2 k2 => ?_
  exact hQ z H2 d n2 (S1.stp x2 p2) (x1.trans x2) h2 k2
/-- a new list, a new tuple -/
def szOk (n : Nat) : Bool := Nat.ble n 16777216
theorem szl {n : Nat} (h : szOk n = true) : n ≤ sizeLine := by
  rw [sizeLine_eq]
  exact Nat.le_of_ble_eq_true h
theorem DaAll.length {c : Wc} {av : Addr → Prop} {H : Hp} : ∀ {vs : List V} {ds : List Dt}, DaAll c av H vs ds → vs.length = ds.length
  | _, _, .nil => rfl
  | _, _, .cons _ t => by rw [List.length_cons, List.length_cons, DaAll.length t]
theorem w_lst (h : Wa c Γ n tl fun ds n1 => szOk ds.length = true ∧ k (.lst ds) n1) : We c Γ n (tLst tl) k := by
  intro ρ av o σ H S Q hQ
  refine h ρ av o σ H S _ fun vs H1 ds n1 S1 x1 h1 k1 => ?_
  refine ⟨by rw [h1.length]; exact szl k1.1, fun p hp => ?_⟩
  have sm := same_new (o := .lst vs) hp
  exact hQ _ _ (.lst ds) n1 (S1.same sm) (x1.trans (Stp.same sm)) (.lst (S1.live.new hp) upd_same (h1.keep (same_kp sm))) k1.2
theorem w_tup (h : Wa c Γ n tl fun ds n1 => szOk ds.length = true ∧ k (.tup ds) n1) : We c Γ n (tTup tl) k := by
  intro ρ av o σ H S Q hQ
  refine h ρ av o σ H S _ fun vs H1 ds n1 S1 x1 h1 k1 => ?_
  refine ⟨by rw [h1.length]; exact szl k1.1, fun p hp => ?_⟩
  have sm := same_new (o := .tup vs) hp
  exact hQ _ _ (.tup ds) n1 (S1.same sm) (x1.trans (Stp.same sm)) (.tup (.inl ⟨S1.live.new hp, .inl upd_same⟩) (h1.keep (same_kp sm))) k1.2
/-! tests -/
theorem wt_test (h : We c Γ n te fun d n1 => ∃ b, d = .bl b ∧ kt b n1) : Wt c Γ n (tTest te) kt := by
  intro ρ av o σ H S Q hQ
  refine h ρ av o σ H S _ fun x H1 d1 n1 S1 x1 h1 k1 => ?_
  obtain ⟨b, rfl, k1⟩ := k1
  cases h1
  exact ⟨b, rfl, hQ b H1 n1 S1 x1 k1⟩
theorem wt_B (h : We c Γ n te fun d n1 => ∃ b, d = .bl b ∧ kt b n1) : Wt c Γ n (tB te) kt := wt_test h
theorem wt_and (h : Wt c Γ n tt fun b n1 => if b = true then Wt c Γ n1 tu kt else kt false n1) : Wt c Γ n (tAnd tt tu) kt := by
  intro ρ av o σ H S Q hQ
  refine h ρ av o σ H S _ fun b H1 n1 S1 x1 k1 => ?_
  cases b with
  | true => exact k1 ρ av o σ H1 S1 Q fun b H2 n2 S2 x2 k2 => hQ b H2 n2 S2 (x1.trans x2) k2
  | false => exact hQ false H1 n1 S1 x1 k1
theorem wt_or (h : Wt c Γ n tt fun b n1 => if b = true then kt true n1 else Wt c Γ n1 tu kt) : Wt c Γ n (tOr tt tu) kt := by
  intro ρ av o σ H S Q hQ
  refine h ρ av o σ H S _ fun b H1 n1 S1 x1 k1 => ?_
  cases b with
  | false => exact k1 ρ av o σ H1 S1 Q fun b H2 n2 S2 x2 k2 => hQ b H2 n2 S2 (x1.trans x2) k2
  | true => exact hQ true H1 n1 S1 x1 k1
theorem wt_not (h : Wt c Γ n tt fun b n1 => kt (!b) n1) : Wt c Γ n (tNot tt) kt := by
  intro ρ av o σ H S Q hQ
  exact h ρ av o σ H S _ fun b H1 n1 S1 x1 k1 => hQ (!b) H1 n1 S1 x1 k1
theorem w_andV (h : We c Γ n ta fun d n1 => ∃ b, d = .bl b ∧ if b = true then We c Γ n1 tb k else k (.bl false) n1) : We c Γ n (tAndV ta tb) k := by
  intro ρ av o σ H S Q hQ
  refine h ρ av o σ H S _ fun x H1 d1 n1 S1 x1 h1 k1 => ?_
  obtain ⟨b, rfl, k1⟩ := k1
  cases h1
  refine ⟨b, rfl, ?_⟩
  cases b with
  | true => exact k1 ρ av o σ H1 S1 Q fun v H2 d n2 S2 x2 h2 k2 => hQ v H2 d n2 S2 (x1.trans x2) h2 k2
  | false => exact hQ _ H1 _ n1 S1 x1 (.bl false) k1
theorem w_orV (h : We c Γ n ta fun d n1 => ∃ b, d = .bl b ∧ if b = true then k (.bl true) n1 else We c Γ n1 tb k) : We c Γ n (tOrV ta tb) k := by
  intro ρ av o σ H S Q hQ
  refine h ρ av o σ H S _ fun x H1 d1 n1 S1 x1 h1 k1 => ?_
  obtain ⟨b, rfl, k1⟩ := k1
  cases h1
  refine ⟨b, rfl, ?_⟩
  cases b with
  | false => exact k1 ρ av o σ H1 S1 Q fun v H2 d n2 S2 x2 h2 k2 => hQ v H2 d n2 S2 (x1.trans x2) h2 k2
  | true => exact hQ _ H1 _ n1 S1 x1 (.bl true) k1
theorem w_notV (h : We c Γ n ta fun d n1 => ∃ b, d = .bl b ∧ k (.bl (!b)) n1) : We c Γ n (tNotV ta) k := by
  intro ρ av o σ H S Q hQ
  refine h ρ av o σ H S _ fun x H1 d1 n1 S1 x1 h1 k1 => ?_
  obtain ⟨b, rfl, k1⟩ := k1
  cases h1
  exact ⟨b, rfl, hQ _ H1 _ n1 S1 x1 (.bl (!b)) k1⟩
theorem w_if (h : Wt c Γ n tt fun b n1 => if b = true then We c Γ n1 ta k else We c Γ n1 tb k) : We c Γ n (tIf tt ta tb) k := by
  intro ρ av o σ H S Q hQ
  refine h ρ av o σ H S _ fun b H1 n1 S1 x1 k1 => ?_
  cases b with
  | true => exact k1 ρ av o σ H1 S1 Q fun v H2 d n2 S2 x2 h2 k2 => hQ v H2 d n2 S2 (x1.trans x2) h2 k2
  | false => exact k1 ρ av o σ H1 S1 Q fun v H2 d n2 S2 x2 h2 k2 => hQ v H2 d n2 S2 (x1.trans x2) h2 k2
theorem w_chain (h : We c Γ n ta fun d1 n1 => We c Γ n1 tb fun d2 n2 => R2D c n2 r d1 d2 fun d => ∃ b, d = .bl b ∧ if b = true then We c Γ n2 tc fun d3 n3 => R2D c n3 r' d2 d3 fun d => k d n3 else k (.bl false) n2) :
    We c Γ n (tChain r r' ta tb tc) k := by
  intro ρ av o σ H S Q hQ
  refine h ρ av o σ H S _ fun x H1 d1 n1 S1 x1 h1 k1 => ?_
  refine k1 ρ av o σ H1 S1 _ fun y H2 d2 n2 S2 x2 h2 k2 => ?_
  refine k2 av H2 x y S2.live ⟨S2.pa, S2.pl, S2.pen⟩ (h1.keep (x2.kp S.pa)) h2 _ fun z H3 d x3 h3 k3 => ?_
  obtain ⟨b, rfl, k3⟩ := k3
  cases h3
  refine ⟨b, rfl, ?_⟩
  have S3 := S2.same x3
  have x13 := (x1.trans x2).trans (Stp.same (a := c.a) x3)
  cases b with
  | false => exact hQ _ H3 _ n2 S3 x13 (.bl false) k3
  | true =>
    refine k3 ρ av o σ H3 S3 _ fun w H4 d4 n4 S4 x4 h4 k4 => ?_
    refine k4 av H4 y w S4.live ⟨S4.pa, S4.pl, S4.pen⟩ (h2.keep ((Stp.same x3).trans x4 |>.kp S.pa)) h4 Q fun z H5 d x5 h5 k5 => ?_
    exact hQ z H5 d n4 (S4.same x5) ((x13.trans x4).trans (Stp.same x5)) h5 k5
end

/-! ### statements -/
section
variable {c : Fc} {Γ : List Sl} {n : Nat} {N : Nd} {te : TE} {tt : TT} {t u : TS} {i : Nat} {kt : Bool → Nat → Prop}
theorem w_seq (h : Ws c Γ n t { N with nx := fun Γ' n' => Ws c Γ' n' u N }) : Ws c Γ n (tSeq t u) N := by
  intro ρ av o σ H S D L
  refine h ρ av o σ H S { D with nx := u D } ⟨fun av o Γ n σ H S' q => q ρ av o σ H S' D L, L.rt, L.bk, L.ct⟩
theorem w_next (h : N.nx Γ n) : Ws c Γ n tNext N := fun ρ av o σ H S D L => L.nx av o Γ n σ H S h
theorem w_break (h : N.bk Γ n) : Ws c Γ n tBreak N := fun ρ av o σ H S D L => L.bk av o Γ n σ H S h
theorem w_cont (h : N.ct Γ n) : Ws c Γ n tCont N := fun ρ av o σ H S D L => L.ct av o Γ n σ H S h
theorem w_asg (h : We c Γ n te fun d n' => N.nx (Γ.set i (.da d)) n') : Ws c Γ n (tAsg te (gName i)) N := by
  intro ρ av o σ H S D L
  refine h ρ av o σ H S _ fun v H' d n' S' x h' k' => ?_
  exact L.nx av o _ n' _ H' (S'.set i h') k'
theorem w_drop (h : We c Γ n te fun d n' => N.nx Γ n') : Ws c Γ n (tDrop te) N := by
  intro ρ av o σ H S D L
  refine h ρ av o σ H S _ fun v H' d n' S' x h' k' => ?_
  exact L.nx av o _ n' _ H' S' k'
theorem w_ret (h : We c Γ n te N.rt) : Ws c Γ n (tRet te) N := by
  intro ρ av o σ H S D L
  exact h ρ av o σ H S _ fun v H' d n' S' x h' k' => L.rt av v H' d n' S'.rsub S'.kp S'.pen h' k'
theorem w_retN (h : N.rt .non n) : Ws c Γ n tRetN N := fun ρ av o σ H S D L => L.rt av .non H .non n S.rsub S.kp S.pen .non h
theorem w_ifS (h : Wt c Γ n tt fun b n' => if b = true then Ws c Γ n' t N else Ws c Γ n' u N) : Ws c Γ n (tIfS tt t u) N := by
  intro ρ av o σ H S D L
  refine h ρ av o σ H S _ fun b H' n' S' x k' => ?_
  cases b with
  | true => exact k' ρ av o σ H' S' D L
  | false => exact k' ρ av o σ H' S' D L
end
end Pb
namespace Pb
open PySem PySem.Spec PyProof.Rows L2

/-! ### promises over data -/
structure Sp1 where
  cost : Nat
  pre : List Dt → Prop
  post : List Dt → Dt → Prop
  exc : List Dt → Str → List (Str × Dt) → Prop := fun _ _ _ => False
def spD (K : PySem.W.Frag) (mg : Str → Option Value) (T : List (Addr × Str)) (S : Sp1) : Sp := fun vs H Q E => ∃ (a l : Addr) (ns : List Int) (er : Option (Addr × Addr × Addr)) (av : Addr → Prop) (n : Nat) (ds : List Dt), Live av H ∧ (av a ∧ ¬ av l) ∧ DaAll ⟨K, mg, a, l, ns, T, er⟩ av H vs ds ∧ Pen a l ns T (n + S.cost) H ∧ S.pre ds ∧
  (∀ v H' d, Stp a H H' → Pen a l ns T n H' → Da ⟨K, mg, a, l, ns, T, er⟩ av H' v d → S.post ds d → Q v H') ∧
  (∀ (cn : Str) (C x : Addr) (H' : Hp) (fs : List (Str × V)) (es : List (Str × Dt)), Stp a H H' → Pen a l ns T n H' → mg cn = some (.ref C) → ¬ av x → H' x = some (.xd fs) → fs.map (·.1) = es.map (·.1) → DaAll ⟨K, mg, a, l, ns, T, er⟩ av H' (fs.map (·.2)) (es.map (·.2)) → S.exc ds cn es → E (.ref C) (some x) H')
/-- a call by such a promise -/
theorem w_call {c : Fc} {S : Sp1} {ds : List Dt} {n : Nat} {k : Kd} (hc : S.cost ≤ n) (hp : S.pre ds) (hk : ∀ d, S.post ds d → k d (n - S.cost)) (hx : ∀ cn es, S.exc ds cn es → c.xk cn es (n - S.cost)) :
    RCD c (fun vs H Q => spD c.K c.mg c.T S vs H Q c.E) ds n k := by
  intro ρ av H vs lv pa pm sub kp pn ex da Q q
  refine ⟨c.a, c.l, c.ns, c.er, av, n - S.cost, ds, lv, pa, da, by rw [Nat.sub_add_cancel hc]; exact pn, hp, ?_, ?_⟩
  · intro v H' d x p h1 h2
    exact q v H' d _ x p h1 (hk d h2)
  · intro cn C x H' fs es st p h1 nx h2 hn h3 h4
    exact ex cn C x H' fs es _ h1 (kp.trans (st.kp pm)) p (fun z => nx (sub x z)) h2 hn (h3.less sub) (hx cn es h4)
/-- .. where nothing is raised -/
theorem w_call0 {c : Fc} {K : PySem.W.Frag} {mg : Str → Option Value} {T : List (Addr × Str)} {E : XK} {S : Sp1} {ds : List Dt} {n : Nat} {k : Kd} (hK : c.K = K) (hm : c.mg = mg) (hT : c.T = T) (hc : S.cost ≤ n) (hp : S.pre ds) (hk : ∀ d, S.post ds d → k d (n - S.cost)) (hx : ∀ cn es, ¬ S.exc ds cn es) :
    RCD c (fun vs H Q => spD K mg T S vs H Q E) ds n k := by
  subst hK hm hT
  intro ρ av H vs lv pa pm sub kp pn ex da Q q
  refine ⟨c.a, c.l, c.ns, c.er, av, n - S.cost, ds, lv, pa, da, by rw [Nat.sub_add_cancel hc]; exact pn, hp, ?_, ?_⟩
  · intro v H' d x p h1 h2
    exact q v H' d _ x p h1 (hk d h2)
  · intro cn C x H' fs es st p h1 nx h2 hn h3 h4
    exact absurd h4 (hx cn es)

/-! ### a body's entry -/
def gam (N : List Str) (ds : List Dt) : List Sl := ds.map Sl.da ++ List.replicate (N.length - ds.length) Sl.un
theorem DaAll.get {c : Wc} {av : Addr → Prop} {H : Hp} : ∀ {vs : List V} {ds : List Dt} {i : Nat} {d : Dt}, DaAll c av H vs ds → ds[i]? = some d → ∃ v, vs[i]? = some v ∧ Da c av H v d
  | _, _, 0, _, .cons h _, e => by
    rw [List.getElem?_cons_zero] at e
    cases e
    exact ⟨_, List.getElem?_cons_zero, h⟩
  | _, _, i + 1, _, .cons _ t, e => by
    rw [List.getElem?_cons_succ] at e
    obtain ⟨v, h1, h2⟩ := DaAll.get t e
    exact ⟨v, by rw [List.getElem?_cons_succ]; exact h1, h2⟩
  | _, _, _, _, .nil, e => by simp at e
theorem gam_da {N : List Str} {ds : List Dt} {i : Nat} {d : Dt} (h : (gam N ds)[i]? = some (Sl.da d)) : ds[i]? = some d := by
  unfold gam at h
  by_cases hi : i < ds.length
  · rw [List.getElem?_append_left (by simpa using hi), List.getElem?_map] at h
    cases e : ds[i]? with
    | none => rw [e] at h; cases h
    | some z => rw [e] at h; cases h; rfl
  · rw [List.getElem?_append_right (by simpa using hi), List.getElem?_replicate] at h
    split at h <;> cases h
theorem gam_ol {N : List Str} {ds : List Dt} {i : Nat} {b : Bool} {es : List Dt} (h : (gam N ds)[i]? = some (Sl.ol b es)) : False := by
  unfold gam at h
  by_cases hi : i < ds.length
  · rw [List.getElem?_append_left (by simpa using hi), List.getElem?_map] at h
    cases e : ds[i]? with
    | none => rw [e] at h; cases h
    | some z => rw [e] at h; cases h
  · rw [List.getElem?_append_right (by simpa using hi), List.getElem?_replicate] at h
    split at h <;> cases h
/-- the root of a body: the pen may change, and nothing else that stands -/
def rootOf (a : Addr) (H : Hp) (av : Addr → Prop) (l : Nat) : Rt := ⟨H, av, fun p => p = a, fun _ => 0, av, l⟩
theorem kp_pen {a : Addr} {H H' : Hp} (h : Kp (fun p => p = a) H H') : Stp a H H' := fun b o hb q t => h b o hb q t
theorem ss_start {c : Fc} {H : Hp} {av : Addr → Prop} {N : List Str} {vs : List V} {ds : List Dt} {n : Nat} (lv : Live av H) (pa : av c.a ∧ ¬ av c.l) (da : DaAll c.toWc av H vs ds) (pn : Pen c.a c.l c.ns c.T n H) (ex : Exk c (rootOf c.a H av (gam N ds).length)) :
    SS c (rootOf c.a H av (gam N ds).length) av (fun _ => 0) (gam N ds) n (L2.start N vs) H where
  len := by
    unfold gam L2.start
    rw [List.length_append, List.length_append, List.length_map, List.length_map, List.length_replicate, List.length_replicate, da.length]
  gl := rfl
  pa := pa.1
  pl := pa.2
  pm := rfl
  sub := fun _ h => h
  rsub := fun _ h => h
  msub := fun p h => by
    have e : p = c.a := h
    rw [e]; exact pa.1
  asub := fun _ h => .inl h
  live := lv
  live0 := lv
  pen := pn
  kp := Kp.refl _ _
  ex := ex
  dat := fun i d h => by
    obtain ⟨v, h1, h2⟩ := da.get (gam_da h)
    refine ⟨v, ?_, h2⟩
    unfold L2.start
    have hi : i < vs.length := (List.getElem?_eq_some_iff.mp h1).1
    rw [List.getElem?_append_left (by simpa using hi), List.getElem?_map, h1]
    rfl
  own := fun i b ds h => (gam_ol h).elim
  inj := fun i j b b' ds es h => (gam_ol h).elim
/-- what a body with the promise S must reach from the data ds, n draws left at least -/
def ndOf (S : Sp1) (ds : List Dt) (n : Nat) : Nd := { nx := fun _ n' => S.post ds .non ∧ n ≤ n', rt := fun d n' => S.post ds d ∧ n ≤ n' }
section
variable {P : Program} {w : World} {K : PySem.W.Frag} {mg : Str → Option Value} {T : List (Addr × Str)} {base : Heap} {x qual : Str} {params : Arguments} {body : List Stmt} {scope : Scope} {dvs : List V} {kws : List (Str × V)} {f : Addr} {fd : FuncData}
/-- THE RULE for a def out of which nothing is raised: the body's reading t, run over data -/
theorem okD0 {b : Bool} {N ps : List Str} {k : Nat} {S : Sp1} (F : FunD K x qual params body scope dvs kws f fd) (sc : FnScope N ps scope) (len : ∀ ds, S.pre ds → ds.length = ps.length)
    (hbody : ∀ (cdv : Value) (A : Around) (outer : List Env) (s : Shared) (H : Hp) (E : XK), RoomG b k (A.deeper (envOfC qual scope s.heap.objs.size f cdv)) →
      ∃ t, PSs (cxOf CX0 P w K mg base N qual scope f cdv A outer s H E).nox body t ∧ ∀ (c : Fc), c.K = K → c.mg = mg → c.T = T → ∀ (ds : List Dt) (n : Nat), S.pre ds → Ws c (gam N ds) (n + S.cost) t (ndOf S ds n)) :
    FnG b P w K mg base CX0 (k + 1) f fd ps (spD K mg T S) := by
  refine okG0 F sc (fun vs H Q E h => ?_) fun cdv A outer s H vs Q E hr h => ?_
  · obtain ⟨a, l, ns, er, av, n, ds, _, _, da, _, hp, _⟩ := h
    rw [da.length]
    exact len ds hp
  · obtain ⟨a, l, ns, er, av, n, ds, lv, pa, da, pn, hp, hq, _⟩ := h
    obtain ⟨t, ht, hw⟩ := hbody cdv A outer s H E hr
    refine ⟨t, ht, ?_⟩
    refine hw ⟨⟨K, mg, a, l, ns, T, er⟩, E0, fun _ _ _ => False⟩ rfl rfl rfl ds n hp (rootOf a H av (gam N ds).length) av (fun _ => 0) (L2.start N vs) H ?_ _ ?_
    · exact ss_start (c := ⟨⟨K, mg, a, l, ns, T, er⟩, E0, fun _ _ _ => False⟩) lv pa da pn fun _ _ _ _ _ _ _ _ _ _ _ _ _ _ z => z
    · refine ⟨fun av' o Γ n' σ H' S' q => ?_, fun av' v H' d n' sub st p h1 q => ?_, fun _ _ _ _ _ _ _ z => z, fun _ _ _ _ _ _ _ z => z⟩
      · exact hq .non H' .non (kp_pen S'.kp) (S'.pen.less q.2) .non q.1
      · exact hq v H' d (kp_pen st) (p.less q.2) (h1.less sub) q.1
/-- .. for a def that may raise -/
theorem okDX {b : Bool} {N ps : List Str} {k : Nat} {S : Sp1} (F : FunD K x qual params body scope dvs kws f fd) (sc : FnScope N ps scope) (len : ∀ ds, S.pre ds → ds.length = ps.length)
    (hbody : ∀ (cdv : Value) (A : Around) (outer : List Env) (s : Shared) (H : Hp) (E : XK), RoomG b k (A.deeper (envOfC qual scope s.heap.objs.size f cdv)) →
      ∃ t, PSs (cxOf (L2.CX P w) P w K mg base N qual scope f cdv A outer s H E) body t ∧ ∀ (c : Fc) (ds : List Dt) (n : Nat), c.K = K → c.mg = mg → c.T = T → c.E = E → (∀ cn es n', S.exc ds cn es → n ≤ n' → c.xk cn es n') → S.pre ds →
        Ws c (gam N ds) (n + S.cost) t (ndOf S ds n)) :
    FnG b P w K mg base (L2.CX P w) (k + 1) f fd ps (spD K mg T S) := by
  refine okG F sc (fun vs H Q E h => ?_) fun cdv A outer s H vs Q E hr h => ?_
  · obtain ⟨a, l, ns, er, av, n, ds, _, _, da, _, hp, _⟩ := h
    rw [da.length]
    exact len ds hp
  · obtain ⟨a, l, ns, er, av, n, ds, lv, pa, da, pn, hp, hq, hx⟩ := h
    obtain ⟨t, ht, hw⟩ := hbody cdv A outer s H E hr
    refine ⟨t, ht, ?_⟩
    refine hw ⟨⟨K, mg, a, l, ns, T, er⟩, E, fun cn es n' => S.exc ds cn es ∧ n ≤ n'⟩ ds n rfl rfl rfl rfl (fun _ _ _ h1 h2 => ⟨h1, h2⟩) hp (rootOf a H av (gam N ds).length) av (fun _ => 0) (L2.start N vs) H ?_ _ ?_
    · exact ss_start (c := ⟨⟨K, mg, a, l, ns, T, er⟩, E, fun cn es n' => S.exc ds cn es ∧ n ≤ n'⟩) lv pa da pn fun cn C x H' fs es n' h1 h2 h3 nx h4 hn h5 h6 => hx cn C x H' fs es (kp_pen h2) (h3.less h6.2) h1 nx h4 hn h5 h6.1
    · refine ⟨fun av' o Γ n' σ H' S' q => ?_, fun av' v H' d n' sub st p h1 q => ?_, fun _ _ _ _ _ _ _ z => z, fun _ _ _ _ _ _ _ z => z⟩
      · exact hq .non H' .non (kp_pen S'.kp) (S'.pen.less q.2) .non q.1
      · exact hq v H' d (kp_pen st) (p.less q.2) (h1.less sub) q.1
end

/-! ### new objects -/
theorem Da.newL {c : Wc} {av : Addr → Prop} {H : Hp} {p : Addr} {vs : List V} {ds : List Dt} (lv : Live av H) (hp : H p = none) (h : DaAll c av H vs ds) : Da c av (upd H p (.lst vs)) (.ref p) (.lst ds) :=
  .lst (lv.new hp) upd_same (h.keep (same_kp (same_new hp)))
theorem Da.newT {c : Wc} {av : Addr → Prop} {H : Hp} {p : Addr} {vs : List V} {ds : List Dt} (lv : Live av H) (hp : H p = none) (h : DaAll c av H vs ds) : Da c av (upd H p (.tup vs)) (.ref p) (.tup ds) :=
  .tup (.inl ⟨lv.new hp, .inl upd_same⟩) (h.keep (same_kp (same_new hp)))
/-! ### operators -/
section
variable {X : Cx} {c : Fc} {n : Nat} {k : Dt → Prop}
def rAdd (K : PySem.W.Frag) : R2 := fun x y H Q => rI0 (fun i j => .int (i + j)) x y H Q ∨ (∃ i j, x = .str i ∧ y = .str j ∧ i.length + j.length ≤ sizeLine ∧ Q (.str (i ++ j)) H) ∨ rCat x y H Q ∨ rCatA K x y H Q
theorem o_add : OpR X (binaryOp .Add) (rAdd X.K) := OpR.or op_add (OpR.or op_add_str (OpR.or op_cat op_catA))
def rSub : R2 := rI0 fun i j => .int (i - j)
theorem o_sub : OpR X (binaryOp .Sub) rSub := op_sub
def rMul : R2 := fun x y H Q => rI CMul (fun i j => .int (i * j)) x y H Q ∨ rRep x y H Q
theorem o_mul : OpR X (binaryOp .Mult) rMul := OpR.or op_mul op_rep
def rMod : R2 := rI (fun _ j => 0 < j) fun i j => .int (i % j)
theorem o_mod : OpR X (binaryOp .Mod) rMod := op_mod
def rDiv : R2 := rI CDiv fun i j => .int (i / j)
theorem o_div : OpR X (binaryOp .FloorDiv) rDiv := op_fdiv
def rPow : R2 := rI CPow fun i j => .int (i ^ j.toNat)
theorem o_pow : OpR X (binaryOp .Pow) rPow := op_pow
def rLtS (f : List Nat → List Nat → Bool) : R2 := fun x y H Q => ∃ i j : Str, x = .str i ∧ y = .str j ∧ Q (.bl (f i.cps.toList j.cps.toList)) H
def rLt : R2 := fun x y H Q => rI0 (fun i j => .bl (decide (i < j))) x y H Q ∨ rLtS (fun a b => decide (a < b)) x y H Q
theorem o_lt : OpR X (compareOp .Lt) rLt := OpR.or op_lt op_lt_str
def rLe : R2 := rI0 fun i j => .bl (decide (i ≤ j))
theorem o_le : OpR X (compareOp .LtE) rLe := op_le
def rGt : R2 := rI0 fun i j => .bl (decide (j < i))
theorem o_gt : OpR X (compareOp .Gt) rGt := op_gt
def rGe : R2 := rI0 fun i j => .bl (decide (j ≤ i))
theorem o_ge : OpR X (compareOp .GtE) rGe := op_ge
/-- two lists of unlike lengths -/
def rLens (K : PySem.W.Frag) (b : Bool) : R2 := fun x y H Q => ∃ p q xs ys, x = .ref p ∧ y = .ref q ∧ SqL K H p xs ∧ SqL K H q ys ∧ xs.length ≠ ys.length ∧ Q (.bl b) H
theorem lens_ne {xs ys : List V} {us ws : List Value} (r1 : Vals xs us) (r2 : Vals ys ws) (h : xs.length ≠ ys.length) : (us.toArray.size != ws.toArray.size) = true := by
  rw [List.size_toArray, List.size_toArray, ← r1.length, ← r2.length]
  simpa using h
theorem o_eqLen (hu : X.A.units + 64 < cLine) : OpR X (compareOp .Eq) (rLens X.K false) := by
  intro pins s σ H x y v u Q I rx ry h
  obtain ⟨p, q, xs, ys, rfl, rfl, h1, h2, hne, hq⟩ := h
  cases rx
  cases ry
  obtain ⟨us, r1, p1, _⟩ := I.list h1
  obtain ⟨ws, r2, p2, _⟩ := I.list h2
  exact SeqAt.RcAt.lists_lengths p1.isList p2.isList (lens_ne r1 r2 hne) (by omega) _ _ _ _ ⟨.bl false, H, I, rfl, hq⟩
theorem o_neLen (hu : X.A.units + 64 < cLine) : OpR X (compareOp .NotEq) (rLens X.K true) := by
  intro pins s σ H x y v u Q I rx ry h
  obtain ⟨p, q, xs, ys, rfl, rfl, h1, h2, hne, hq⟩ := h
  cases rx
  cases ry
  obtain ⟨us, r1, p1, _⟩ := I.list h1
  obtain ⟨ws, r2, p2, _⟩ := I.list h2
  exact SeqAt.RcNeAt.lists_lengths p1.isList p2.isList (lens_ne r1 r2 hne) (by omega) _ _ _ _ ⟨.bl true, H, I, rfl, hq⟩
def rEqX (K : PySem.W.Frag) : R2 := fun x y H Q => rEq x y H Q ∨ rEqD K x y H Q ∨ rLens K false x y H Q
theorem o_eq (hu : X.A.units + 64 < cLine) : OpR X (compareOp .Eq) (rEqX X.K) := OpR.or op_eq (OpR.or (op_eqD hu) (o_eqLen hu))
def rNeX (K : PySem.W.Frag) : R2 := fun x y H Q => rNe x y H Q ∨ rNeD K x y H Q ∨ rLens K true x y H Q
theorem o_ne (hu : X.A.units + 64 < cLine) : OpR X (compareOp .NotEq) (rNeX X.K) := OpR.or op_ne (OpR.or (op_neD hu) (o_neLen hu))
def rSg (neg : Bool) : R2 := fun x y H Q => ∃ (s : Nat) (z : Str), x = .str ⟨#[s]⟩ ∧ y = .str z ∧ Q (.bl (if neg then !decide (s ∈ z.cps.toList) else decide (s ∈ z.cps.toList))) H
def rInX (K : PySem.W.Frag) (neg : Bool) : R2 := fun x y H Q => rSg neg x y H Q ∨ rIn K neg x y H Q
theorem o_in : OpR X (compareOp .In) (rInX X.K false) := OpR.or op_in_sign op_in_seq
theorem o_notIn : OpR X (compareOp .NotIn) (rInX X.K true) := OpR.or op_notIn_sign op_notIn_seq
def rIs : R2 := fun x y H Q => y = .non ∧ Q (.bl (decide (x = .non))) H
theorem o_is : OpR X (compareOp .Is) rIs := op_isN
def rIsNot : R2 := fun x y H Q => y = .non ∧ Q (.bl (!decide (x = .non))) H
theorem o_isNot : OpR X (compareOp .IsNot) rIsNot := op_notN

/-! their readings over data -/
theorem r_addI {i j : Int} (h : k (.int (i + j))) : R2D c n (rAdd c.K) (.int i) (.int j) k := by
  intro av H x y lv pa h1 h2 Q q
  cases h1; cases h2
  exact .inl ⟨i, j, rfl, rfl, q _ H _ (Same.refl H) (.int _) h⟩
theorem r_addS {i j : Str} (hz : szOk (i.length + j.length) = true) (h : k (.str (i ++ j))) : R2D c n (rAdd c.K) (.str i) (.str j) k := by
  intro av H x y lv pa h1 h2 Q q
  cases h1; cases h2
  exact .inr (.inl ⟨i, j, rfl, rfl, szl hz, q _ H _ (Same.refl H) (.str _) h⟩)
theorem DaAll.append {c : Wc} {av : Addr → Prop} {H : Hp} : ∀ {vs ws : List V} {ds es : List Dt}, DaAll c av H vs ds → DaAll c av H ws es → DaAll c av H (vs ++ ws) (ds ++ es)
  | _, _, _, _, .nil, h => h
  | _, _, _, _, .cons h1 h2, h => .cons h1 (DaAll.append h2 h)
theorem r_addL {ds es : List Dt} (hz : szOk (ds.length + es.length) = true) (h : k (.lst (ds ++ es))) : R2D c n (rAdd c.K) (.lst ds) (.lst es) k := by
  intro av H x y lv pa h1 h2 Q q
  cases h1 with
  | lst a1 a2 a3 =>
    cases h2 with
    | lst b1 b2 b3 =>
      refine .inr (.inr (.inl ⟨_, _, _, _, rfl, rfl, a2, b2, by rw [a3.length, b3.length]; exact szl hz, fun p hp => ?_⟩))
      exact q _ _ _ (same_new hp) (Da.newL lv hp (a3.append b3)) h
theorem r_addT {ds es : List Dt} (hz : szOk (ds.length + es.length) = true) (h : k (.tup (ds ++ es))) : R2D c n (rAdd c.K) (.tup ds) (.tup es) k := by
  intro av H x y lv pa h1 h2 Q q
  cases h1 with
  | tup a2 a3 =>
    cases h2 with
    | tup b2 b3 =>
      refine .inr (.inr (.inr ⟨_, _, _, _, rfl, rfl, a2.sq, b2.sq, by rw [a3.length, b3.length]; exact szl hz, fun z => ?_, fun z1 z2 => ?_, fun z1 z2 p hp => ?_⟩))
      · subst z
        cases a3
        exact q _ H _ (Same.refl H) (.tup b2 b3) h
      · subst z2
        cases b3
        rw [List.append_nil] at h
        exact q _ H _ (Same.refl H) (.tup a2 a3) h
      · exact q _ _ _ (same_new hp) (Da.newT lv hp (a3.append b3)) h
theorem r_subI {i j : Int} (h : k (.int (i - j))) : R2D c n rSub (.int i) (.int j) k := by
  intro av H x y lv pa h1 h2 Q q
  cases h1; cases h2
  exact ⟨i, j, rfl, rfl, q _ H _ (Same.refl H) (.int _) h⟩
theorem r_mulI {i j : Int} (hm : CMul i j) (h : k (.int (i * j))) : R2D c n rMul (.int i) (.int j) k := by
  intro av H x y lv pa h1 h2 Q q
  cases h1; cases h2
  exact .inl ⟨i, j, rfl, rfl, hm, q _ H _ (Same.refl H) (.int _) h⟩
theorem DaAll.rep {c : Wc} {av : Addr → Prop} {H : Hp} {vs : List V} {ds : List Dt} (h : DaAll c av H vs ds) : ∀ m : Nat, DaAll c av H (List.replicate m vs).flatten (List.replicate m ds).flatten
  | 0 => .nil
  | m + 1 => by
    rw [List.replicate_succ, List.replicate_succ, List.flatten_cons, List.flatten_cons]
    exact h.append (DaAll.rep h m)
theorem r_mulL {ds : List Dt} {m : Int} (h0 : -(2 ^ 63) ≤ m) (h1 : m < 2 ^ 63) (hz : szOk (ds.length * m.toNat) = true) (h : k (.lst (List.replicate m.toNat ds).flatten)) : R2D c n rMul (.lst ds) (.int m) k := by
  intro av H x y lv pa a b Q q
  cases b
  cases a with
  | lst a1 a2 a3 =>
    refine .inr ⟨_, m, _, rfl, rfl, a2, h0, h1, by rw [a3.length]; exact szl hz, fun p hp => ?_⟩
    exact q _ _ _ (same_new hp) (Da.newL lv hp (a3.rep _)) h
theorem r_modI {i j : Int} (hj : 0 < j) (h : k (.int (i % j))) : R2D c n rMod (.int i) (.int j) k := by
  intro av H x y lv pa h1 h2 Q q
  cases h1; cases h2
  exact ⟨i, j, rfl, rfl, hj, q _ H _ (Same.refl H) (.int _) h⟩
theorem r_divI {i j : Int} (hj : 0 < j ∧ j < 1073741824) (h : k (.int (i / j))) : R2D c n rDiv (.int i) (.int j) k := by
  intro av H x y lv pa h1 h2 Q q
  cases h1; cases h2
  exact ⟨i, j, rfl, rfl, hj, q _ H _ (Same.refl H) (.int _) h⟩
theorem r_powI {i j : Int} (hj : 0 ≤ j ∧ j ≤ 1000000 ∧ i.natAbs < 2 ^ 64) (h : k (.int (i ^ j.toNat))) : R2D c n rPow (.int i) (.int j) k := by
  intro av H x y lv pa h1 h2 Q q
  cases h1; cases h2
  exact ⟨i, j, rfl, rfl, hj, q _ H _ (Same.refl H) (.int _) h⟩
theorem r_ltI {i j : Int} (h : k (.bl (decide (i < j)))) : R2D c n rLt (.int i) (.int j) k := by
  intro av H x y lv pa h1 h2 Q q
  cases h1; cases h2
  exact .inl ⟨i, j, rfl, rfl, q _ H _ (Same.refl H) (.bl _) h⟩
theorem r_ltS {i j : Str} (h : k (.bl (decide (i.cps.toList < j.cps.toList)))) : R2D c n rLt (.str i) (.str j) k := by
  intro av H x y lv pa h1 h2 Q q
  cases h1; cases h2
  exact .inr ⟨i, j, rfl, rfl, q _ H _ (Same.refl H) (.bl _) h⟩
theorem r_leI {i j : Int} (h : k (.bl (decide (i ≤ j)))) : R2D c n rLe (.int i) (.int j) k := by
  intro av H x y lv pa h1 h2 Q q
  cases h1; cases h2
  exact ⟨i, j, rfl, rfl, q _ H _ (Same.refl H) (.bl _) h⟩
theorem r_gtI {i j : Int} (h : k (.bl (decide (j < i)))) : R2D c n rGt (.int i) (.int j) k := by
  intro av H x y lv pa h1 h2 Q q
  cases h1; cases h2
  exact ⟨i, j, rfl, rfl, q _ H _ (Same.refl H) (.bl _) h⟩
theorem r_geI {i j : Int} (h : k (.bl (decide (j ≤ i)))) : R2D c n rGe (.int i) (.int j) k := by
  intro av H x y lv pa h1 h2 Q q
  cases h1; cases h2
  exact ⟨i, j, rfl, rfl, q _ H _ (Same.refl H) (.bl _) h⟩
/-! plain data and the model's own -/
mutual
def Dt.py : Dt → Option PyData
  | .non => some .none
  | .bl b => some (.bool b)
  | .int i => some (.int i)
  | .str x => some (.str x)
  | .lst xs => (Dt.pyAll xs).map PyData.list
  | .tup xs => (Dt.pyAll xs).map PyData.tuple
  | _ => none
def Dt.pyAll : List Dt → Option (List PyData)
  | [] => some []
  | d :: ds => (Dt.py d).bind fun x => (Dt.pyAll ds).map fun xs => x :: xs
end
mutual
theorem Da.dp {c : Wc} {av : Addr → Prop} {H : Hp} : ∀ (d : Dt) (v : V) (e : PyData), Da c av H v d → d.py = some e → Dp c.K H v e
  | .non, _, _, h, q => by cases h; cases q; exact .non
  | .bl _, _, _, h, q => by cases h; cases q; exact .bl _
  | .int _, _, _, h, q => by cases h; cases q; exact .int _
  | .str _, _, _, h, q => by cases h; cases q; exact .str _
  | .lst ds, _, e, h, q => by
    cases h with
    | lst h1 h2 h3 =>
      have q' : (Dt.pyAll ds).map PyData.list = some e := q
      obtain ⟨es, q1, q2⟩ := Option.map_eq_some_iff.mp q'
      subst q2
      exact .lst (SqL.of h2) (DaAll.dp ds _ es h3 q1)
  | .tup ds, _, e, h, q => by
    cases h with
    | tup h2 h3 =>
      have q' : (Dt.pyAll ds).map PyData.tuple = some e := q
      obtain ⟨es, q1, q2⟩ := Option.map_eq_some_iff.mp q'
      subst q2
      exact .tup h2.sq (DaAll.dp ds _ es h3 q1)
  | .dic _ _, _, _, _, q => by cases q
  | .obj _ _ _, _, _, _, q => by cases q
  | .err _ _ _, _, _, _, q => by cases q
  | .pen, _, _, _, q => by cases q
theorem DaAll.dp {c : Wc} {av : Addr → Prop} {H : Hp} : ∀ (ds : List Dt) (vs : List V) (es : List PyData), DaAll c av H vs ds → Dt.pyAll ds = some es → DpAll c.K H vs es
  | [], _, _, h, q => by cases h; cases q; exact .nil
  | d :: ds, _, es, h, q => by
    cases h with
    | cons h1 h2 =>
      have q' : ((Dt.py d).bind fun x => (Dt.pyAll ds).map fun xs => x :: xs) = some es := q
      obtain ⟨x, q1, q2⟩ := Option.bind_eq_some_iff.mp q'
      obtain ⟨xs, q3, q4⟩ := Option.map_eq_some_iff.mp q2
      subst q4
      exact .cons (Da.dp d _ x h1 q1) (DaAll.dp ds _ xs h2 q3)
end
def scalD : Dt → Dt → Bool
  | .non, .non => true | .non, .int _ => true | .int _, .non => true | .non, .bl _ => true | .bl _, .non => true | .non, .str _ => true | .str _, .non => true
  | .int _, .int _ => true | .bl _, .bl _ => true | .str _, .str _ => true
  | .int _, .str _ => true | .str _, .int _ => true | .bl _, .str _ => true | .str _, .bl _ => true
  | _, _ => false
def sameD : Dt → Dt → Bool
  | .non, .non => true
  | .int i, .int j => decide (i = j)
  | .bl i, .bl j => decide (i = j)
  | .str i, .str j => decide (i = j)
  | _, _ => false
theorem scalD_ok {c : Wc} {av : Addr → Prop} {H : Hp} {d e : Dt} {x y : V} (hs : scalD d e = true) (h1 : Da c av H x d) (h2 : Da c av H y e) : scal x y = true ∧ decide (x = y) = sameD d e := by
  cases h1 <;> cases h2 <;> first
    | exact ⟨rfl, rfl⟩
    | (exfalso; exact absurd hs Bool.false_ne_true)
    | (refine ⟨rfl, ?_⟩; simp [sameD])
theorem r_eqC {d e : Dt} (hs : scalD d e = true) (h : k (.bl (sameD d e))) : R2D c n (rEqX c.K) d e k := by
  intro av H x y lv pa h1 h2 Q q
  obtain ⟨z1, z2⟩ := scalD_ok hs h1 h2
  exact .inl ⟨z1, by rw [z2]; exact q _ H _ (Same.refl H) (.bl _) h⟩
theorem r_neC {d e : Dt} (hs : scalD d e = true) (h : k (.bl (!sameD d e))) : R2D c n (rNeX c.K) d e k := by
  intro av H x y lv pa h1 h2 Q q
  obtain ⟨z1, z2⟩ := scalD_ok hs h1 h2
  exact .inl ⟨z1, by rw [z2]; exact q _ H _ (Same.refl H) (.bl _) h⟩
theorem r_eqD {d e : Dt} {d' e' : PyData} (h1 : d.py = some d') (h2 : e.py = some e') (s1 : SeqAt.shaped d' = true) (s2 : SeqAt.shaped e' = true) (h : k (.bl (PyData.eqv d' e'))) : R2D c n (rEqX c.K) d e k := by
  intro av H x y lv pa a b Q q
  exact .inr (.inl ⟨d', e', Da.dp d x d' a h1, Da.dp e y e' b h2, s1, s2, q _ H _ (Same.refl H) (.bl _) h⟩)
theorem r_neD {d e : Dt} {d' e' : PyData} (h1 : d.py = some d') (h2 : e.py = some e') (s1 : SeqAt.shaped d' = true) (s2 : SeqAt.shaped e' = true) (h : k (.bl (!PyData.eqv d' e'))) : R2D c n (rNeX c.K) d e k := by
  intro av H x y lv pa a b Q q
  exact .inr (.inl ⟨d', e', Da.dp d x d' a h1, Da.dp e y e' b h2, s1, s2, q _ H _ (Same.refl H) (.bl _) h⟩)
theorem r_eqNil {ds : List Dt} (h : k (.bl ds.isEmpty)) : R2D c n (rEqX c.K) (.lst ds) (.lst []) k := by
  cases ds with
  | nil => exact r_eqD (d' := .list []) (e' := .list []) rfl rfl rfl rfl h
  | cons e es =>
    intro av H x y lv pa h1 h2 Q q
    cases h1 with
    | lst a1 a2 a3 =>
      cases h2 with
      | lst b1 b2 b3 =>
        exact .inr (.inr ⟨_, _, _, _, rfl, rfl, SqL.of a2, SqL.of b2, by rw [a3.length, b3.length]; simp, q _ H _ (Same.refl H) (.bl _) h⟩)
theorem r_neNilD {ds : List Dt} (h : k (.bl (!ds.isEmpty))) : R2D c n (rNeX c.K) (.lst ds) (.lst []) k := by
  cases ds with
  | nil => exact r_neD (d' := .list []) (e' := .list []) rfl rfl rfl rfl h
  | cons e es =>
    intro av H x y lv pa h1 h2 Q q
    cases h1 with
    | lst a1 a2 a3 =>
      cases h2 with
      | lst b1 b2 b3 =>
        exact .inr (.inr ⟨_, _, _, _, rfl, rfl, SqL.of a2, SqL.of b2, by rw [a3.length, b3.length]; simp, q _ H _ (Same.refl H) (.bl _) h⟩)
theorem r_isN {d : Dt} {b : Bool} (hb : (match d with | .non => true | _ => false) = b) (h : k (.bl b)) : R2D c n rIs d .non k := by
  intro av H x y lv pa h1 h2 Q q
  cases h2
  refine ⟨rfl, ?_⟩
  have e : decide (x = .non) = b := by
    subst hb
    cases h1 <;> first | rfl | (simp)
  rw [e]
  exact q _ H _ (Same.refl H) (.bl _) h
theorem r_notN {d : Dt} {b : Bool} (hb : (match d with | .non => false | _ => true) = b) (h : k (.bl b)) : R2D c n rIsNot d .non k := by
  intro av H x y lv pa h1 h2 Q q
  cases h2
  refine ⟨rfl, ?_⟩
  have e : (!decide (x = .non)) = b := by
    subst hb
    cases h1 <;> first | rfl | (simp)
  rw [e]
  exact q _ H _ (Same.refl H) (.bl _) h
theorem r_inS {s : Nat} {z : Str} {neg : Bool} (h : k (.bl (if neg then !decide (s ∈ z.cps.toList) else decide (s ∈ z.cps.toList)))) : R2D c n (rInX c.K neg) (.str ⟨#[s]⟩) (.str z) k := by
  intro av H x y lv pa h1 h2 Q q
  cases h1; cases h2
  exact .inl ⟨s, z, rfl, rfl, q _ H _ (Same.refl H) (.bl _) h⟩
def flatD : Dt → Bool
  | .non => true | .bl _ => true | .int _ => true | .str _ => true | _ => false
def eqvD : Dt → Dt → Bool
  | .non, .non => true
  | .bl a, .bl b => a == b
  | .bl a, .int b => (if a then 1 else 0) == b
  | .int a, .bl b => a == (if b then 1 else 0)
  | .int a, .int b => a == b
  | .str a, .str b => a == b
  | _, _ => false
theorem flatD_ok {c : Wc} {av : Addr → Prop} {H : Hp} {d : Dt} {x : V} (hs : flatD d = true) (h : Da c av H x d) : flatV x = true := by
  cases h <;> first | rfl | (exact absurd hs Bool.false_ne_true)
theorem eqvD_ok {c : Wc} {av : Addr → Prop} {H : Hp} {d e : Dt} {x y : V} (hd : flatD d = true) (he : flatD e = true) (h1 : Da c av H x d) (h2 : Da c av H y e) : eqV x y = eqvD d e := by
  cases h1 <;> first
    | (exact absurd hd Bool.false_ne_true)
    | (cases h2 <;> first | rfl | (exact absurd he Bool.false_ne_true))
theorem inD_ok {c : Wc} {av : Addr → Prop} {H : Hp} {d : Dt} {x : V} (hd : flatD d = true) (h1 : Da c av H x d) : ∀ {vs : List V} {ds : List Dt}, DaAll c av H vs ds → ds.all flatD = true → vs.all flatV = true ∧ inV x vs = ds.any fun e => eqvD e d
  | _, _, .nil, _ => ⟨rfl, rfl⟩
  | _, _, .cons h t, ha => by
    rw [List.all_cons, Bool.and_eq_true] at ha
    obtain ⟨z1, z2⟩ := inD_ok hd h1 t ha.2
    refine ⟨by rw [List.all_cons, flatD_ok ha.1 h, z1]; rfl, ?_⟩
    unfold inV at z2 ⊢
    rw [List.any_cons, List.any_cons, eqvD_ok ha.1 hd h h1, z2]
theorem r_inT {d : Dt} {ds : List Dt} {neg : Bool} (hd : flatD d = true) (ha : ds.all flatD = true) (h : k (.bl (if neg then !(ds.any fun e => eqvD e d) else ds.any fun e => eqvD e d))) : R2D c n (rInX c.K neg) d (.tup ds) k := by
  intro av H x y lv pa h1 h2 Q q
  cases h2 with
  | tup b2 b3 =>
    obtain ⟨z1, z2⟩ := inD_ok hd h1 b3 ha
    refine .inr ⟨_, _, rfl, .inr b2.sq, flatD_ok hd h1, z1, ?_⟩
    rw [z2]
    exact q _ H _ (Same.refl H) (.bl _) h
theorem r_inL {d : Dt} {ds : List Dt} {neg : Bool} (hd : flatD d = true) (ha : ds.all flatD = true) (h : k (.bl (if neg then !(ds.any fun e => eqvD e d) else ds.any fun e => eqvD e d))) : R2D c n (rInX c.K neg) d (.lst ds) k := by
  intro av H x y lv pa h1 h2 Q q
  cases h2 with
  | lst b1 b2 b3 =>
    obtain ⟨z1, z2⟩ := inD_ok hd h1 b3 ha
    refine .inr ⟨_, _, rfl, .inl (SqL.of b2), flatD_ok hd h1, z1, ?_⟩
    rw [z2]
    exact q _ H _ (Same.refl H) (.bl _) h
end
end Pb
namespace Pb
open PySem PySem.Spec PyProof.Rows L2

/-! ### items and slices -/
section
variable {X : Cx} {c : Fc} {k : Dt → Prop} {Γ : List Sl} {n : Nat}
theorem DaAll.atI {c : Wc} {av : Addr → Prop} {H : Hp} {vs : List V} {ds : List Dt} {i : Int} {d : Dt} (h : DaAll c av H vs ds) (e : atI ds i = some d) : ∃ v, atI vs i = some v ∧ Da c av H v d := by
  unfold L2.atI at e ⊢
  rw [h.length]
  obtain ⟨j, e1, e2⟩ := Option.bind_eq_some_iff.mp e
  obtain ⟨v, h1, h2⟩ := h.get e2
  exact ⟨v, by rw [e1]; exact h1, h2⟩
theorem r_ixL {ds : List Dt} {i : Int} {d : Dt} (e : atI ds i = some d) (h : k d) : R2D c n (rIx c.K) (.lst ds) (.int i) k := by
  intro av H x y lv pa a b Q q
  cases b
  cases a with
  | lst a1 a2 a3 =>
    obtain ⟨v, h1, h2⟩ := a3.atI e
    exact .inl ⟨_, _, i, v, rfl, rfl, SqL.of a2, h1, q _ H _ (Same.refl H) h2 h⟩
theorem r_ixT {ds : List Dt} {i : Int} {d : Dt} (e : atI ds i = some d) (h : k d) : R2D c n (rIx c.K) (.tup ds) (.int i) k := by
  intro av H x y lv pa a b Q q
  cases b
  cases a with
  | tup a2 a3 =>
    obtain ⟨v, h1, h2⟩ := a3.atI e
    exact .inr (.inl ⟨_, _, i, v, rfl, rfl, a2.sq, h1, q _ H _ (Same.refl H) h2 h⟩)
theorem r_ixS {z : Str} {i : Int} {s : Nat} (hz : szOk z.length = true) (e : atI z.cps.toList i = some s) (h : k (.str ⟨#[s]⟩)) : R2D c n (rIx c.K) (.str z) (.int i) k := by
  intro av H x y lv pa a b Q q
  cases a; cases b
  exact .inr (.inr ⟨z, i, s, rfl, rfl, szl hz, e, q _ H _ (Same.refl H) (.str _) h⟩)
def Wo (c : Fc) (Γ : List Sl) (n : Nat) (to : TO) (k : Option Int → Nat → Prop) : Prop := ∀ ρ av o σ H, SS c ρ av o Γ n σ H → ∀ Q : Option Int → Hp → Prop, (∀ b H' n', SS c ρ av o Γ n' σ H' → Stp c.a H H' → k b n' → Q b H') → to σ H Q
theorem wo_none {k : Option Int → Nat → Prop} (h : k none n) : Wo c Γ n tNoPart k := fun ρ av o σ H S Q q => q _ H n S (Stp.refl _ _) h
theorem wo_some {k : Option Int → Nat → Prop} {te : TE} (h : We c Γ n te fun d m => ∃ i, d = .int i ∧ k (some i) m) : Wo c Γ n (tPart te) k := by
  intro ρ av o σ H S Q q
  refine h ρ av o σ H S _ fun v H' d m S' x h' kk => ?_
  obtain ⟨i, rfl, kk⟩ := kk
  cases h'
  exact ⟨i, rfl, q _ H' m S' x kk⟩
def cutG {α : Type} (xs : List α) (lo hi : Option Int) : List α := (xs.drop (HT.sIx xs.length 0 lo)).take (HT.sIx xs.length xs.length hi - HT.sIx xs.length 0 lo)
def rSl (K : PySem.W.Frag) : V → Option Int → Option Int → Hp → VK → Prop := fun x lo hi H Q => rSlL K x lo hi H Q ∨ rSlA K x lo hi H Q ∨ rSlS x lo hi H Q
theorem sl_any : SlR X (rSl X.K) := SlR.or sl_list (SlR.or sl_tupA sl_str)
def RSD (c : Fc) (r : V → Option Int → Option Int → Hp → VK → Prop) (d : Dt) (lo hi : Option Int) (k : Dt → Prop) : Prop := ∀ av H x, Live av H → av c.a → Da c.toWc av H x d → ∀ Q : VK, (∀ z H' d, Same H H' → Da c.toWc av H' z d → k d → Q z H') → r x lo hi H Q
theorem w_sl {r : V → Option Int → Option Int → Hp → VK → Prop} {te : TE} {tl th : TO} {k : Kd} (h : We c Γ n te fun d n1 => Wo c Γ n1 tl fun lo n2 => Wo c Γ n2 th fun hi n3 => RSD c r d lo hi fun e => k e n3) : We c Γ n (tSl r te tl th) k := by
  intro ρ av o σ H S Q hQ
  refine h ρ av o σ H S _ fun x H1 d1 n1 S1 x1 h1 k1 => ?_
  refine k1 ρ av o σ H1 S1 _ fun lo H2 n2 S2 x2 k2 => ?_
  refine k2 ρ av o σ H2 S2 _ fun hi H3 n3 S3 x3 k3 => ?_
  refine k3 av H3 x S3.live S3.pa (h1.keep ((x2.trans x3).kp S.pa)) Q fun z H4 d x4 h4 k4 => ?_
  exact hQ z H4 d n3 (S3.same x4) (((x1.trans x2).trans x3).trans (Stp.same x4)) h4 k4
theorem DaAll.drop {c : Wc} {av : Addr → Prop} {H : Hp} : ∀ (m : Nat) {vs : List V} {ds : List Dt}, DaAll c av H vs ds → DaAll c av H (vs.drop m) (ds.drop m)
  | 0, _, _, h => h
  | _ + 1, _, _, .nil => .nil
  | m + 1, _, _, .cons _ t => DaAll.drop m t
theorem DaAll.take {c : Wc} {av : Addr → Prop} {H : Hp} : ∀ (m : Nat) {vs : List V} {ds : List Dt}, DaAll c av H vs ds → DaAll c av H (vs.take m) (ds.take m)
  | 0, _, _, _ => .nil
  | _ + 1, _, _, .nil => .nil
  | m + 1, _, _, .cons h t => .cons h (DaAll.take m t)
theorem DaAll.cut {c : Wc} {av : Addr → Prop} {H : Hp} {vs : List V} {ds : List Dt} (h : DaAll c av H vs ds) (lo hi : Option Int) : DaAll c av H (cutV vs lo hi) (cutG ds lo hi) := by
  unfold cutV cutG
  rw [h.length]
  exact (h.drop _).take _
theorem cutG_whole {α : Type} (xs : List α) (lo hi : Option Int) (h : HT.sIx xs.length 0 lo = 0 ∧ HT.sIx xs.length xs.length hi = xs.length) : cutG xs lo hi = xs := by
  unfold cutG
  rw [h.1, h.2, List.drop_zero, Nat.sub_zero, List.take_length]
theorem s_lst {ds : List Dt} {lo hi : Option Int} (h : k (.lst (cutG ds lo hi))) : RSD c (rSl c.K) (.lst ds) lo hi k := by
  intro av H x lv pa a Q q
  cases a with
  | lst a1 a2 a3 => exact .inl ⟨_, _, rfl, SqL.of a2, fun p hp => q _ _ _ (same_new hp) (Da.newL lv hp (a3.cut lo hi)) h⟩
theorem s_tup {ds : List Dt} {lo hi : Option Int} (h : k (.tup (cutG ds lo hi))) : RSD c (rSl c.K) (.tup ds) lo hi k := by
  intro av H x lv pa a Q q
  cases a with
  | tup a2 a3 =>
    refine .inr (.inl ⟨_, _, rfl, a2.sq, fun z => ?_, fun z p hp => q _ _ _ (same_new hp) (Da.newT lv hp (a3.cut lo hi)) h⟩)
    rw [a3.length] at z
    rw [cutG_whole _ _ _ z] at h
    exact q _ H _ (Same.refl H) (.tup a2 a3) h
theorem s_str {z : Str} {lo hi : Option Int} (hz : szOk z.length = true) (h : k (.str (cutS z lo hi))) : RSD c (rSl c.K) (.str z) lo hi k := by
  intro av H x lv pa a Q q
  cases a
  exact .inr (.inr ⟨z, rfl, szl hz, q _ H _ (Same.refl H) (.str _) h⟩)
end

/-! ### built-ins -/
section
variable {X : Cx} {c : Fc} {k : Kd} {Γ : List Sl} {n : Nat}
/-- an answer that changes nothing -/
theorem rc_pure {r : List V → Hp → VK → Prop} {ds : List Dt} (h : ∀ av H vs, Live av H → av c.a → DaAll c.toWc av H vs ds → ∀ Q : VK, (∀ z H' d, Same H H' → Da c.toWc av H' z d → k d n → Q z H') → r vs H Q) : RCD c r ds n k := by
  intro ρ av H vs lv pa pm sub kp pn ex da Q q
  exact h av H vs lv pa.1 da Q fun z H' d sm h1 h2 => q z H' d n (Stp.same sm) (pn.same sm) h1 h2
def rLen (K : PySem.W.Frag) : List V → Hp → VK → Prop := fun xs H Q => (∃ x n, xs = [x] ∧ LenV K x H n ∧ Q (.int n) H) ∨ (∃ a kvs, xs = [V.ref a] ∧ H a = some (.dK kvs) ∧ Q (.int kvs.length) H)
theorem b_len : CallR X (.builtin "len") (rLen X.K) := CallR.or call_len call_lenD
theorem c_lenL {ds : List Dt} (h : k (.int ds.length) n) : RCD c (rLen c.K) [.lst ds] n k := rc_pure fun av H vs lv pa da Q q => by
  cases da with
  | cons h1 h2 =>
    cases h2
    cases h1 with
    | lst a1 a2 a3 => exact .inl ⟨_, _, rfl, .inl ⟨_, SqL.of a2, rfl⟩, q _ H (.int ds.length) (Same.refl H) (by rw [a3.length]; exact .int _) h⟩
theorem c_lenT {ds : List Dt} (h : k (.int ds.length) n) : RCD c (rLen c.K) [.tup ds] n k := rc_pure fun av H vs lv pa da Q q => by
  cases da with
  | cons h1 h2 =>
    cases h2
    cases h1 with
    | tup a2 a3 => exact .inl ⟨_, _, rfl, .inr ⟨_, a2.sq, rfl⟩, q _ H (.int ds.length) (Same.refl H) (by rw [a3.length]; exact .int _) h⟩
theorem c_lenS {z : Str} (hz : szOk z.length = true) (h : k (.int z.length) n) : RCD c (rLen c.K) [.str z] n k := rc_pure fun av H vs lv pa da Q q => by
  cases da with
  | cons h1 h2 =>
    cases h2; cases h1
    exact .inl ⟨_, _, rfl, ⟨szl hz, rfl⟩, q _ H (.int z.length) (Same.refl H) (.int _) h⟩
theorem c_lenD {ks : List Key} {ds : List Dt} (h : k (.int ks.length) n) : RCD c (rLen c.K) [.dic ks ds] n k := rc_pure fun av H vs lv pa da Q q => by
  cases da with
  | cons h1 h2 =>
    cases h2
    cases h1 with
    | dic a1 a2 a3 a4 =>
      refine .inr ⟨_, _, rfl, a2, q _ H (.int ks.length) (Same.refl H) ?_ h⟩
      rw [← a3, List.length_map]
      exact .int _
def rAbs : List V → Hp → VK → Prop := fun xs H Q => ∃ i, xs = [.int i] ∧ Q (.int (if i < 0 then -i else i)) H
theorem b_abs : CallR X (.builtin "abs") rAbs := call_abs
theorem c_abs {i : Int} (h : k (.int (if i < 0 then -i else i)) n) : RCD c rAbs [.int i] n k := rc_pure fun av H vs lv pa da Q q => by
  cases da with
  | cons h1 h2 => cases h2; cases h1; exact ⟨i, rfl, q _ H _ (Same.refl H) (.int _) h⟩
def rInt : List V → Hp → VK → Prop := fun xs H Q => ((∃ i, xs = [.int i] ∧ Q (.int i) H) ∨ ∃ k, xs = [.bl k] ∧ Q (.int (if k then 1 else 0)) H) ∨ ∃ a n, xs = [.str a] ∧ PySem.intText? a = some n ∧ a.length ≤ 640 ∧ Q (.int n) H
theorem b_int : CallR X (.type "int") rInt := CallR.or call_int1 call_int_str
theorem c_intI {i : Int} (h : k (.int i) n) : RCD c rInt [.int i] n k := rc_pure fun av H vs lv pa da Q q => by
  cases da with
  | cons h1 h2 => cases h2; cases h1; exact .inl (.inl ⟨i, rfl, q _ H _ (Same.refl H) (.int _) h⟩)
theorem c_intB {b : Bool} (h : k (.int (if b then 1 else 0)) n) : RCD c rInt [.bl b] n k := rc_pure fun av H vs lv pa da Q q => by
  cases da with
  | cons h1 h2 => cases h2; cases h1; exact .inl (.inr ⟨b, rfl, q _ H _ (Same.refl H) (.int _) h⟩)
theorem c_intS {z : Str} {i : Int} (e : PySem.intText? z = some i) (hz : z.length ≤ 640) (h : k (.int i) n) : RCD c rInt [.str z] n k := rc_pure fun av H vs lv pa da Q q => by
  cases da with
  | cons h1 h2 => cases h2; cases h1; exact .inr ⟨z, i, rfl, e, hz, q _ H _ (Same.refl H) (.int _) h⟩
def rList (K : PySem.W.Frag) : List V → Hp → VK → Prop := fun xs H Q => ∃ p ys, xs = [.ref p] ∧ (SqL K H p ys ∨ SqT K H p ys) ∧ ∀ l, H l = none → Q (.ref l) (upd H l (.lst ys))
theorem b_list : CallR X (.type "list") (rList X.K) := call_list_of
theorem c_listL {ds : List Dt} (h : k (.lst ds) n) : RCD c (rList c.K) [.lst ds] n k := rc_pure fun av H vs lv pa da Q q => by
  cases da with
  | cons h1 h2 =>
    cases h2
    cases h1 with
    | lst a1 a2 a3 => exact ⟨_, _, rfl, .inl (SqL.of a2), fun p hp => q _ _ _ (same_new hp) (Da.newL lv hp a3) h⟩
theorem c_listT {ds : List Dt} (h : k (.lst ds) n) : RCD c (rList c.K) [.tup ds] n k := rc_pure fun av H vs lv pa da Q q => by
  cases da with
  | cons h1 h2 =>
    cases h2
    cases h1 with
    | tup a2 a3 => exact ⟨_, _, rfl, .inr a2.sq, fun p hp => q _ _ _ (same_new hp) (Da.newL lv hp a3) h⟩
def rTuple (K : PySem.W.Frag) : List V → Hp → VK → Prop := fun xs H Q => ∃ p ys, xs = [.ref p] ∧ ((SqL K H p ys ∧ ∀ l, H l = none → Q (.ref l) (upd H l (.tup ys))) ∨ (SqT K H p ys ∧ Q (.ref p) H))
theorem b_tuple : CallR X (.type "tuple") (rTuple X.K) := call_tuple_of
theorem c_tupleL {ds : List Dt} (h : k (.tup ds) n) : RCD c (rTuple c.K) [.lst ds] n k := rc_pure fun av H vs lv pa da Q q => by
  cases da with
  | cons h1 h2 =>
    cases h2
    cases h1 with
    | lst a1 a2 a3 => exact ⟨_, _, rfl, .inl ⟨SqL.of a2, fun p hp => q _ _ _ (same_new hp) (Da.newT lv hp a3) h⟩⟩
theorem c_tupleT {ds : List Dt} (h : k (.tup ds) n) : RCD c (rTuple c.K) [.tup ds] n k := rc_pure fun av H vs lv pa da Q q => by
  cases da with
  | cons h1 h2 =>
    cases h2
    cases h1 with
    | tup a2 a3 => exact ⟨_, _, rfl, .inr ⟨a2.sq, q _ H _ (Same.refl H) (.tup a2 a3) h⟩⟩
def rStr : List V → Hp → VK → Prop := fun xs H Q => (∃ i, xs = [.int i] ∧ i.natAbs.log2 < 1920 ∧ Q (.str (toString i)) H) ∨ ∃ a, xs = [.str a] ∧ Q (.str a) H
theorem b_str : CallR X (.type "str") rStr := CallR.or call_str_int SkE.call_str_str
theorem c_strI {i : Int} (hz : i.natAbs.log2 < 1920) (h : k (.str (toString i)) n) : RCD c rStr [.int i] n k := rc_pure fun av H vs lv pa da Q q => by
  cases da with
  | cons h1 h2 => cases h2; cases h1; exact .inl ⟨i, rfl, hz, q _ H _ (Same.refl H) (.str _) h⟩
theorem c_strS {z : Str} (h : k (.str z) n) : RCD c rStr [.str z] n k := rc_pure fun av H vs lv pa da Q q => by
  cases da with
  | cons h1 h2 => cases h2; cases h1; exact .inr ⟨z, rfl, q _ H _ (Same.refl H) (.str _) h⟩
theorem DaAll.bls {c : Wc} {av : Addr → Prop} {H : Hp} : ∀ {bs : List Bool} {vs : List V}, DaAll c av H vs (bs.map Dt.bl) → vs = bs.map V.bl
  | [], _, h => by cases h; rfl
  | b :: bs, _, h => by
    cases h with
    | cons h1 h2 =>
      cases h1
      rw [DaAll.bls h2]
      rfl
theorem b_all (hc : X.calm = true) : CallR X (.builtin "all") (rAll X.K) := cr_all hc
theorem b_any (hc : X.calm = true) : CallR X (.builtin "any") (rAny X.K) := cr_any hc
theorem c_all {bs : List Bool} (h : k (.bl (bs.all id)) n) : RCD c (rAll c.K) [.lst (bs.map Dt.bl)] n k := rc_pure fun av H vs lv pa da Q q => by
  cases da with
  | cons h1 h2 =>
    cases h2
    cases h1 with
    | lst a1 a2 a3 =>
      have e := a3.bls
      subst e
      exact ⟨_, bs, rfl, SqL.of a2, q _ H _ (Same.refl H) (.bl _) h⟩
/-! isinstance -/
inductive Tn where
  | none | bool | int | str | list | tuple | dict
def Tn.s : Tn → String
  | .none => "NoneType" | .bool => "bool" | .int => "int" | .str => "str" | .list => "list" | .tuple => "tuple" | .dict => "dict"
def Tn.sub : Tn → Tn → Bool
  | .none, .none => true
  | .bool, .bool => true
  | .bool, .int => true
  | .int, .int => true
  | .str, .str => true
  | .list, .list => true
  | .tuple, .tuple => true
  | .dict, .dict => true
  | _, _ => false
def Dt.tn : Dt → Option Tn
  | .non => some .none
  | .bl _ => some .bool
  | .int _ => some .int
  | .str _ => some .str
  | .lst _ => some .list
  | .tup _ => some .tuple
  | .dic _ _ => some .dict
  | _ => none
theorem kit_tn (a b : Tn) : kitB a.s b.s = some (a.sub b) ∨ b = .none := by
  cases b <;> first | (exact .inr rfl) | (left; cases a <;> decide +kernel)
theorem Da.ty {c : Wc} {av : Addr → Prop} {H : Hp} {d : Dt} {x : V} {t : Tn} (h : Da c av H x d) (e : d.tn = some t) : TyX c.K H x (.type t.s) := by
  cases h with
  | non => cases e; exact .base .non
  | bl b => cases e; exact .base (.bl b)
  | int i => cases e; exact .base (.int i)
  | str z => cases e; exact .base (.str z)
  | lst h1 h2 h3 => cases e; exact .base (.lst h2)
  | tup h2 h3 =>
    cases e
    rcases h2 with ⟨_, h2 | ⟨o, h2⟩⟩ | ⟨o, its, m, h2, h4, _⟩
    · exact .base (.tup h2)
    · exact .fTuple h2
    · exact .kTuple h2 h4
  | dic h1 h2 h3 h4 => cases e; exact .base (.dK h2)
  | obj => cases e
  | err _ _ _ _ => cases e
  | pen => cases e
theorem w_isi {te : TE} (T : Tn) (hT : T ≠ .none) (h : We c Γ n te fun d n1 => ∃ t, d.tn = some t ∧ k (.bl (t.sub T)) n1) : We c Γ n (tCB (rIsi c.K) (tCons te (tCons (tC (.ty T.s)) tNil))) k := by
  intro ρ av o σ H S Q hQ
  refine h ρ av o σ H S _ fun x H1 d1 n1 S1 x1 h1 k1 => ?_
  obtain ⟨t, e, k1⟩ := k1
  refine ⟨x, .ty T.s, _, _, t.sub T, rfl, .ty _, h1.ty e, kit_ty ((kit_tn t T).resolve_right hT), ?_⟩
  exact hQ _ H1 _ n1 S1 x1 (.bl _) k1
theorem w_isiStr {te : TE} (h : We c Γ n te fun d n1 => ∃ t, d.tn = some t ∧ k (.bl (t.sub .str)) n1) : We c Γ n (tCB (rIsi c.K) (tCons te (tCons (tC (.ty "str")) tNil))) k := w_isi .str (fun z => by cases z) h
theorem w_isiInt {te : TE} (h : We c Γ n te fun d n1 => ∃ t, d.tn = some t ∧ k (.bl (t.sub .int)) n1) : We c Γ n (tCB (rIsi c.K) (tCons te (tCons (tC (.ty "int")) tNil))) k := w_isi .int (fun z => by cases z) h
theorem w_isiBool {te : TE} (h : We c Γ n te fun d n1 => ∃ t, d.tn = some t ∧ k (.bl (t.sub .bool)) n1) : We c Γ n (tCB (rIsi c.K) (tCons te (tCons (tC (.ty "bool")) tNil))) k := w_isi .bool (fun z => by cases z) h
theorem w_isiList {te : TE} (h : We c Γ n te fun d n1 => ∃ t, d.tn = some t ∧ k (.bl (t.sub .list)) n1) : We c Γ n (tCB (rIsi c.K) (tCons te (tCons (tC (.ty "list")) tNil))) k := w_isi .list (fun z => by cases z) h
theorem w_isiTuple {te : TE} (h : We c Γ n te fun d n1 => ∃ t, d.tn = some t ∧ k (.bl (t.sub .tuple)) n1) : We c Γ n (tCB (rIsi c.K) (tCons te (tCons (tC (.ty "tuple")) tNil))) k := w_isi .tuple (fun z => by cases z) h
theorem w_isiDict {te : TE} (h : We c Γ n te fun d n1 => ∃ t, d.tn = some t ∧ k (.bl (t.sub .dict)) n1) : We c Γ n (tCB (rIsi c.K) (tCons te (tCons (tC (.ty "dict")) tNil))) k := w_isi .dict (fun z => by cases z) h
/-- isinstance(x, (tuple, list)) -/
theorem w_isiTL {te : TE} (h : We c Γ n te fun d n1 => ∃ t, d.tn = some t ∧ k (.bl (t.sub .tuple || t.sub .list)) n1) : We c Γ n (tCB (rIsiT c.K) (tCons te (tCons (tTup (tCons (tC (.ty "tuple")) (tCons (tC (.ty "list")) tNil))) tNil))) k := by
  intro ρ av o σ H S Q hQ
  refine h ρ av o σ H S _ fun x H1 d1 n1 S1 x1 h1 k1 => ?_
  obtain ⟨t, e, k1⟩ := k1
  refine ⟨szl rfl, fun p hp => ?_⟩
  have sm := same_new (o := HO.tup [.ty "tuple", .ty "list"]) hp
  refine ⟨x, p, [.ty "tuple", .ty "list"], _, [.type "tuple", .type "list"], t.sub .tuple || t.sub .list, rfl, upd_same, .cons (.ty _) (.cons (.ty _) .nil), (h1.keep (same_kp sm)).ty e, ?_, ?_⟩
  · have e1 : PySem.W.kitOne c.K (.type t.s) (.type "tuple") = some (t.sub .tuple) := kit_ty ((kit_tn t .tuple).resolve_right fun z => by cases z)
    have e2 : PySem.W.kitOne c.K (.type t.s) (.type "list") = some (t.sub .list) := kit_ty ((kit_tn t .list).resolve_right fun z => by cases z)
    refine kitAny_cons e1 (fun z => kitAny_cons e2 (fun z2 => ?_) (fun z2 => ?_)) (fun z => ?_)
    · rw [z, z2]; exact kitAny_nil
    · rw [z2, Bool.or_true]
    · rw [z, Bool.true_or]
  · exact hQ _ _ _ n1 (S1.same sm) (x1.trans (Stp.same sm)) (.bl _) k1
end
end Pb
namespace Pb
open PySem PySem.Spec PyProof.Rows L2

/-! ### repr of data -/
def keyP : Key → PyData
  | .inl i => .int i
  | .inr x => .str x
mutual
def Dt.pyd : Dt → Option PyData
  | .non => some .none
  | .bl b => some (.bool b)
  | .int i => some (.int i)
  | .str x => some (.str x)
  | .lst xs => (Dt.pydAll xs).map PyData.list
  | .tup xs => (Dt.pydAll xs).map PyData.tuple
  | .dic ks ds => (Dt.pydAll ds).map fun es => .dict ((ks.map keyP).zip es)
  | _ => none
def Dt.pydAll : List Dt → Option (List PyData)
  | [] => some []
  | d :: ds => (Dt.pyd d).bind fun x => (Dt.pydAll ds).map fun xs => x :: xs
end
theorem pydAll_len : ∀ {ds : List Dt} {es : List PyData}, Dt.pydAll ds = some es → es.length = ds.length
  | [], _, h => by cases h; rfl
  | d :: ds, es, h => by
    have h' : ((Dt.pyd d).bind fun x => (Dt.pydAll ds).map fun xs => x :: xs) = some es := h
    obtain ⟨x, q1, q2⟩ := Option.bind_eq_some_iff.mp h'
    obtain ⟨xs, q3, q4⟩ := Option.map_eq_some_iff.mp q2
    subst q4
    rw [List.length_cons, List.length_cons, pydAll_len q3]
theorem reads_keys {P : Program} {w : World} {h : Heap} : ∀ {es : List DictEntry} {kvs : List (Key × Value)}, Pairs (mixKind P w) es kvs → ReadsAll h (es.map (·.key)) ((kvs.map (·.1)).map keyP) []
  | _, _, .nil => .nil
  | e :: es, kv :: kvs, .cons h1 _ h3 => by
    have r := reads_keys (h := h) h3
    obtain ⟨k, v⟩ := kv
    have h1' : keyIs k e.key = true := h1
    rcases keyIs_shape h1' with ⟨i, t, e1, e2⟩ | ⟨x, t, e1, e2⟩
    · subst e1
      show ReadsAll h (e.key :: es.map (·.key)) (PyData.int i :: (kvs.map (·.1)).map keyP) []
      rw [e2]
      exact ReadsAll.cons (as := []) (bs := []) (.int i t) r
    · subst e1
      show ReadsAll h (e.key :: es.map (·.key)) (PyData.str x :: (kvs.map (·.1)).map keyP) []
      rw [e2]
      exact ReadsAll.cons (as := []) (bs := []) (.str x t) r
theorem pairs_vals {P : Program} {w : World} : ∀ {es : List DictEntry} {kvs : List (Key × Value)}, Pairs (mixKind P w) es kvs → es.map (·.val) = kvs.map (·.2)
  | _, _, .nil => rfl
  | e :: es, kv :: kvs, .cons _ h2 h3 => by rw [List.map_cons, List.map_cons, h2, pairs_vals h3]
theorem kv_split : ∀ {kvs : List (Key × V)} {vs : List (Key × Value)}, KV kvs vs → vs.map (·.1) = kvs.map (·.1) ∧ Vals (kvs.map (·.2)) (vs.map (·.2))
  | _, _, .nil => ⟨rfl, .nil⟩
  | _, _, .cons h t => by
    obtain ⟨a, b⟩ := kv_split t
    refine ⟨?_, .cons h.2 b⟩
    rw [List.map_cons, List.map_cons, a, h.1]
section
variable {X : Cx} {pins : List (Addr × Obj)} {σ : L2.St} {H : Hp} {s : Shared} {c : Wc} {av : Addr → Prop}
mutual
theorem Da.reads (I : Inv X pins σ H s) (hK : c.K = X.K) : ∀ (d : Dt) (v : V) (u : Value) (e : PyData), Da c av H v d → d.pyd = some e → RelV v u → ∃ as, Reads s.heap u e as ∧ ∀ a ∈ as, H a ≠ none
  | .non, _, _, _, h, q, r => by
    cases h; cases q; cases r
    exact ⟨_, .none, fun a z => by simp at z⟩
  | .bl b, _, _, _, h, q, r => by
    cases h; cases q; cases r
    exact ⟨_, .bool b, fun a z => by simp at z⟩
  | .int i, _, _, _, h, q, r => by
    cases h; cases q
    obtain ⟨t, rfl⟩ := r
    exact ⟨_, .int i t, fun a z => by simp at z⟩
  | .str x, _, _, _, h, q, r => by
    cases h; cases q
    obtain ⟨t, rfl⟩ := r
    exact ⟨_, .str x t, fun a z => by simp at z⟩
  | .lst ds, _, _, e, h, q, r => by
    cases h with
    | lst h1 h2 h3 =>
      cases r
      have q' : (Dt.pydAll ds).map PyData.list = some e := q
      obtain ⟨es, q1, q2⟩ := Option.map_eq_some_iff.mp q'
      subst q2
      obtain ⟨its, rv, ⟨o, n, ho, hc, _, hd⟩, _⟩ := I.list (SqL.of h2)
      obtain ⟨as, hr, hz⟩ := DaAll.reads I hK ds _ its es h3 q1 rv
      refine ⟨_, .list ho hc hd hr, fun a z => ?_⟩
      rcases List.mem_cons.mp z with z | z
      · rw [z, h2]; intro w; cases w
      · exact hz a z
  | .tup ds, _, _, e, h, q, r => by
    cases h with
    | tup h2 h3 =>
      cases r
      have q' : (Dt.pydAll ds).map PyData.tuple = some e := q
      obtain ⟨es, q1, q2⟩ := Option.map_eq_some_iff.mp q'
      subst q2
      obtain ⟨its, rv, ⟨o, ho, hc, n, hd⟩, _⟩ := I.tuple (hK ▸ h2.sq)
      obtain ⟨as, hr, hz⟩ := DaAll.reads I hK ds _ its es h3 q1 rv
      exact ⟨_, .tuple ho hc hd hr, hz⟩
  | .dic ks ds, _, _, e, h, q, r => by
    cases h with
    | @dic p kvs _ _ h1 h2 h3 h4 =>
      cases r
      have q' : ((Dt.pydAll ds).map fun es => PyData.dict ((ks.map keyP).zip es)) = some e := q
      obtain ⟨es, q1, q2⟩ := Option.map_eq_some_iff.mp q'
      subst q2
      obtain ⟨_, _, vs, rk, o, en, ep, ho, hx, hd, _, hp, _⟩ := (show ObjOk X.prog X.w H s.heap p (.dK kvs) from I.hok p _ h2)
      obtain ⟨e1, rv⟩ := kv_split rk
      obtain ⟨as, hr, hz⟩ := DaAll.reads I hK ds _ _ es h4 q1 rv
      have ln : (ks.map keyP).length = es.length := by
        rw [pydAll_len q1, ← h4.length, ← h3, List.length_map, List.length_map, List.length_map]
      have k1 := reads_keys (h := s.heap) hp
      rw [e1, h3] at k1
      have v1 : ReadsAll s.heap (en.toList.map (·.val)) es as := by
        rw [pairs_vals hp]
        exact hr
      refine ⟨_, .dict (kvs := (ks.map keyP).zip es) ho hx.1 hd (by rw [List.map_fst_zip (by omega)]; exact k1) (by rw [List.map_snd_zip (by omega)]; exact v1), fun a z => ?_⟩
      rcases List.mem_append.mp z with z | z
      · rw [List.mem_singleton.mp z, h2]; intro w; cases w
      · exact hz a z
  | .obj _ _ _, _, _, _, _, q, _ => by cases q
  | .err _ _ _, _, _, _, _, q, _ => by cases q
  | .pen, _, _, _, _, q, _ => by cases q
theorem DaAll.reads (I : Inv X pins σ H s) (hK : c.K = X.K) : ∀ (ds : List Dt) (vs : List V) (us : List Value) (es : List PyData), DaAll c av H vs ds → Dt.pydAll ds = some es → Vals vs us → ∃ as, ReadsAll s.heap us es as ∧ ∀ a ∈ as, H a ≠ none
  | [], _, _, _, h, q, r => by
    cases h; cases q; cases r
    exact ⟨_, .nil, fun a z => by simp at z⟩
  | d :: ds, _, _, es, h, q, r => by
    cases h with
    | cons h1 h2 =>
      cases r with
      | cons r1 r2 =>
        have q' : ((Dt.pyd d).bind fun x => (Dt.pydAll ds).map fun xs => x :: xs) = some es := q
        obtain ⟨x, q1, q2⟩ := Option.bind_eq_some_iff.mp q'
        obtain ⟨xs, q3, q4⟩ := Option.map_eq_some_iff.mp q2
        subst q4
        obtain ⟨as, a1, a2⟩ := Da.reads I hK d _ _ x h1 q1 r1
        obtain ⟨bs, b1, b2⟩ := DaAll.reads I hK ds _ _ xs h2 q3 r2
        refine ⟨_, .cons a1 b1, fun a z => ?_⟩
        rcases List.mem_append.mp z with z | z
        · exact a2 a z
        · exact b2 a z
end
end
/-- what may be shown -/
def shows (e : PyData) : Bool := e.showable && decide (e.depth ≤ 100)
def rRepr (K : PySem.W.Frag) : List V → Hp → VK → Prop := fun xs H Q => ∃ (c : Wc) (av : Addr → Prop) (v : V) (d : Dt) (e : PyData), xs = [v] ∧ c.K = K ∧ Da c av H v d ∧ d.pyd = some e ∧ (e.hasDict = true → ∃ o, K.lookup sysModules = some o) ∧
  shows e = true ∧ e.shown.length ≤ sizeLine ∧ Q (.str e.shown) H
theorem b_repr {X : Cx} {k : Nat} (hr : RoomG true k X.A) : CallR X (.builtin "repr") (rRepr X.K) := by
  intro pins s σ H xs us Q I r h
  obtain ⟨c, av, v, d, e, rfl, hK, da, hp, hs, hw, hz, q⟩ := h
  obtain ⟨h1, h2⟩ := Bool.and_eq_true_iff.mp hw
  have h2 := of_decide_eq_true h2
  have hu := hr.rm.un
  cases r with
  | cons rv rn =>
    cases rn
    obtain ⟨as, rd, tr⟩ := Da.reads I hK d v _ e da hp rv
    have big : ∀ tk, EP X pins σ Q (.str e.shown tk) { s with toks := s.toks + 1 } := fun tk => ⟨.str e.shown, H, I.tok _, ⟨_, rfl⟩, q⟩
    cases da with
    | non =>
      cases rv; cases hp
      refine PySem.P.repr_of_none ?_
      have e1 : (PyData.none).shown = ("None" : Str) := PyData.shown_none
      rw [← e1]; exact big _
    | bl b =>
      cases rv; cases hp
      refine PySem.P.repr_of_bool ?_
      have e1 : (PyData.bool b).shown = (if b then "True" else "False" : Str) := PyData.shown_bool b
      rw [← e1]; exact big _
    | int i =>
      obtain ⟨t, rfl⟩ := rv
      cases hp
      have h3 : i.natAbs.log2 < 1920 := by
        have z : decide (i.natAbs.log2 < 1920) = true := by simpa [PyData.showable] using h1
        exact of_decide_eq_true z
      refine PySem.P.repr_of_int h3 ?_
      have e1 : (PyData.int i).shown = ((toString i : String) : Str) := PyData.shown_int i
      rw [← e1]; exact big _
    | str x =>
      obtain ⟨t, rfl⟩ := rv
      cases hp
      have e1 : (PyData.str x).shown = reprText x := PyData.shown_str x
      rw [e1] at hz
      refine PySem.P.repr_of_str ?_ hz
      rw [← e1]; exact big _
    | lst a1 a2 a3 =>
      cases rv
      refine repr_of_reads' rd h1 (fun hd hm => ?_) (hr.gd rfl) (by omega) (fun _ _ e => e) (fun h' u tk hk => ⟨.str e.shown, H, I.kept hk, ⟨_, rfl⟩, q⟩) hz
      obtain ⟨o, ho⟩ := hs hd
      exact tr _ hm (I.bs _ o (I.ok.mod.kin _ _ ho)).2
    | tup a2 a3 =>
      cases rv
      refine repr_of_reads' rd h1 (fun hd hm => ?_) (hr.gd rfl) (by omega) (fun _ _ e => e) (fun h' u tk hk => ⟨.str e.shown, H, I.kept hk, ⟨_, rfl⟩, q⟩) hz
      obtain ⟨o, ho⟩ := hs hd
      exact tr _ hm (I.bs _ o (I.ok.mod.kin _ _ ho)).2
    | dic a1 a2 a3 a4 =>
      cases rv
      refine repr_of_reads' rd h1 (fun hd hm => ?_) (hr.gd rfl) (by omega) (fun _ _ e => e) (fun h' u tk hk => ⟨.str e.shown, H, I.kept hk, ⟨_, rfl⟩, q⟩) hz
      obtain ⟨o, ho⟩ := hs hd
      exact tr _ hm (I.bs _ o (I.ok.mod.kin _ _ ho)).2
    | obj => cases hp
    | err => cases hp
    | pen => cases hp
section
variable {c : Fc} {k : Kd} {n : Nat}
theorem c_repr {d : Dt} {e : PyData} (hp : d.pyd = some e) (hs : e.hasDict = true → ∃ o, c.K.lookup sysModules = some o) (hw : shows e = true) (hz : szOk e.shown.length = true) (h : k (.str e.shown) n) : RCD c (rRepr c.K) [d] n k := rc_pure fun av H vs lv pa da Q q => by
  cases da with
  | cons h1 h2 =>
    cases h2
    exact ⟨c.toWc, av, _, d, e, rfl, rfl, h1, hp, hs, hw, szl hz, q _ H _ (Same.refl H) (.str _) h⟩
end

/-! ### methods of texts -/
section
variable {X : Cx} {c : Fc} {k : Kd} {Γ : List Sl} {n : Nat} {to te : TE}
/-- a method of a text with one argument -/
theorem w_m1 {r : V → List V → Hp → VK → Prop} (h : We c Γ n to fun d n1 => ∃ z, d = .str z ∧ We c Γ n1 te fun e n2 => ∀ av H y, Live av H → av c.a → Da c.toWc av H y e → ∀ Q : VK, (∀ z H' d, Same H H' → Da c.toWc av H' z d → k d n2 → Q z H') → r (.str z) [y] H Q) :
    We c Γ n (tM1 r to te) k := by
  intro ρ av o σ H S Q hQ
  refine h ρ av o σ H S _ fun x H1 d1 n1 S1 x1 h1 k1 => ?_
  obtain ⟨z, rfl, k1⟩ := k1
  cases h1
  refine ⟨⟨z, rfl⟩, ?_⟩
  refine k1 ρ av o σ H1 S1 _ fun y H2 d2 n2 S2 x2 h2 k2 => ?_
  refine k2 av H2 y S2.live S2.pa h2 Q fun z H3 d x3 h3 k3 => ?_
  exact hQ z H3 d n2 (S2.same x3) ((x1.trans x2).trans (Stp.same x3)) h3 k3
theorem DaAll.strs {c : Wc} {av : Addr → Prop} {H : Hp} : ∀ {ys : List Str} {vs : List V}, DaAll c av H vs (ys.map Dt.str) → vs = ys.map V.str
  | [], _, h => by cases h; rfl
  | b :: bs, _, h => by
    cases h with
    | cons h1 h2 =>
      cases h1
      rw [DaAll.strs h2]
      rfl
theorem DaAll.ofStrs {c : Wc} {av : Addr → Prop} {H : Hp} : ∀ (ys : List Str), DaAll c av H (ys.map V.str) (ys.map Dt.str)
  | [] => .nil
  | y :: ys => .cons (.str y) (DaAll.ofStrs ys)
/-- sep.join(list of texts) -/
theorem w_join {r : V → List V → Hp → VK → Prop} (hr : r = fun x xs H Q => ∃ a p, ∃ ys : List Str, x = .str a ∧ xs = [.ref p] ∧ (SqL c.K H p (ys.map V.str) ∨ SqT c.K H p (ys.map V.str)) ∧ (ys.map (·.length)).sum + ys.length * a.length ≤ 16777216 ∧ Q (.str (Txt.join a ys)) H)
    (h : We c Γ n to fun d n1 => ∃ z, d = .str z ∧ We c Γ n1 te fun e n2 => ∃ ys : List Str, e = .lst (ys.map Dt.str) ∧ (ys.map (·.length)).sum + ys.length * z.length ≤ 16777216 ∧ k (.str (Txt.join z ys)) n2) : We c Γ n (tM1 r to te) k := by
  refine w_m1 (h.mono fun d m q => ?_)
  obtain ⟨z, e1, q⟩ := q
  refine ⟨z, e1, q.mono fun d2 m2 q2 => ?_⟩
  obtain ⟨ys, e2, hz, q2⟩ := q2
  subst e2
  intro av H y lv pa da Q hq
  cases da with
  | lst a1 a2 a3 =>
    have e := a3.strs
    subst e
    rw [hr]
    exact ⟨z, _, ys, rfl, rfl, .inl (SqL.of a2), hz, hq _ H _ (Same.refl H) (.str _) q2⟩
/-- s.split(sep) -/
theorem w_split {r : V → List V → Hp → VK → Prop} (hr : r = fun x xs H Q => ∃ a b, x = .str a ∧ xs = [.str b] ∧ (b.length == 0) = false ∧ a.length + 2 ≤ sizeLine ∧ rNewStrs (Txt.split a b) H Q)
    (h : We c Γ n to fun d n1 => ∃ z, d = .str z ∧ We c Γ n1 te fun e n2 => ∃ b, e = .str b ∧ (b.length == 0) = false ∧ szOk (z.length + 2) = true ∧ k (.lst ((Txt.split z b).map Dt.str)) n2) : We c Γ n (tM1 r to te) k := by
  refine w_m1 (h.mono fun d m q => ?_)
  obtain ⟨z, e1, q⟩ := q
  refine ⟨z, e1, q.mono fun d2 m2 q2 => ?_⟩
  obtain ⟨b, e2, hb, hz, q2⟩ := q2
  subst e2
  intro av H y lv pa da Q hq
  cases da
  rw [hr]
  exact ⟨z, b, rfl, rfl, hb, szl hz, fun p hp => hq _ _ _ (same_new hp) (Da.newL lv hp (DaAll.ofStrs _)) q2⟩
end
end Pb
namespace Pb
open PySem PySem.Spec PyProof.Rows L2

/-! ### what is walked -/
/-- a list, a tuple or a text, by its value -/
def iSq (K : PySem.W.Frag) (te : TE) : TI := fun σ H R => te σ H fun v H1 =>
  (∃ a, v = .ref a ∧ (∃ xs, SqL K H1 a xs) ∧ R (Itl K a) H1) ∨ (∃ a, v = .ref a ∧ (∃ xs, SqT K H1 a xs) ∧ R (Itt K a) H1) ∨ ∃ x, v = .str x ∧ R (Its x) H1
theorem pi_sq {X : Cx} {tg l : Expr} {te : TE} (hl : PE X l te) : PI X tg l (iSq X.K te) := by
  constructor
  intro pins s σ H R I h
  refine thn (hl.run pins s σ H _ I h) ?_
  rintro v s1 ⟨y, H1, I1, r1, q⟩
  rcases q with ⟨a, rfl, ⟨xs, hq⟩, q⟩ | ⟨a, rfl, ⟨xs, hq⟩, q⟩ | ⟨x, rfl, q⟩
  · cases r1
    obtain ⟨its, rv, p, hz⟩ := I1.list hq
    refine wpAny_pyIter_list p.isList ?_
    exact pi_one (tk := s1.toks) I1 _ (turn_list a _) ⟨_, Heap.get?_push_size _ rfl, rfl, rfl⟩ q
  · cases r1
    obtain ⟨its, rv, p, hz⟩ := I1.tuple hq
    refine wpAny_pyIter_tuple (show s1.heap.IsTuple a its.toArray from p) ?_
    exact pi_one (tk := s1.toks) I1 _ (turn_tuple a _) ⟨_, Heap.get?_push_size _ rfl, rfl, rfl⟩ q
  · obtain ⟨t, rfl⟩ := r1
    cases ha : x.cps.all (· < 128)
    · exact wpAny_pyIter_wide ha (pi_one (tk := s1.toks) I1 _ (turn_str _ x t "str_iterator" (.inr rfl)) ⟨_, Heap.get?_push_size _ rfl, rfl, rfl⟩ q)
    · exact wpAny_pyIter_ascii ha (pi_one (tk := s1.toks) I1 _ (turn_str _ x t "str_ascii_iterator" (.inl rfl)) ⟨_, Heap.get?_push_size _ rfl, rfl, rfl⟩ q)
/-- an iterator, begun at H1, that gives the data ds one by one while what is not of av stays -/
structure ItD (c : Wc) (av : Addr → Prop) (H1 : Hp) (J : It) (ds : List Dt) : Prop where
  goes : ∀ i H, i < ds.length → Kp av H1 H → J.go i H
  stops : ∀ H, Kp av H1 H → J.stop ds.length H
  yields : ∀ i H x H' (av' : Addr → Prop), i < ds.length → Kp av H1 H → Kp av' H1 H → Live av' H → (∀ p, av' p → av p ∨ Fr H1 p) → J.yld i H x H' → Same H H' ∧ ∃ d, ds[i]? = some d ∧ Da c av' H' x d
section
variable {c : Wc} {av av' : Addr → Prop} {H : Hp}
theorem TupAt.widen {K : PySem.W.Frag} {p : Addr} {vs : List V} (k : ∀ p, av' p → av p ∨ Fr H p) (h : TupAt K av H p vs) : TupAt K av' H p vs := by
  rcases h with ⟨h1, h2⟩ | h
  · refine .inl ⟨fun z => (k p z).elim h1 fun e => ?_, h2⟩
    rcases h2 with h2 | ⟨o, h2⟩
    · exact absurd (e _ h2) Bool.false_ne_true
    · exact absurd (e _ h2) Bool.false_ne_true
  · exact .inr h
theorem ErAt.widen {p C : Addr} {fs : List (Str × V)} (k : ∀ p, av' p → av p ∨ Fr H p) (h : ErAt c av H p C fs) : ErAt c av' H p C fs := by
  rcases h with ⟨dd, h1, h2, h3⟩ | ⟨dd, h1, h2, h3, h4⟩
  · exact .inl ⟨dd, h1, fun z => (k _ z).elim h2 fun e => absurd (e _ h3) Bool.false_ne_true, h3⟩
  · exact .inr ⟨dd, fun z => (k _ z).elim h1 fun e => absurd (e _ h3) Bool.false_ne_true, fun z => (k _ z).elim h2 fun e => absurd (e _ h4) Bool.false_ne_true, h3, h4⟩
mutual
theorem Da.widen (k : ∀ p, av' p → av p ∨ Fr H p) : ∀ (d : Dt) (v : V), Da c av H v d → Da c av' H v d
  | .non, _, h => by cases h; exact .non
  | .bl _, _, h => by cases h; exact .bl _
  | .int _, _, h => by cases h; exact .int _
  | .str _, _, h => by cases h; exact .str _
  | .lst ds, _, h => by
    cases h with
    | lst h1 h2 h3 => exact .lst (fun z => (k _ z).elim h1 fun e => absurd (e _ h2) Bool.false_ne_true) h2 (DaAll.widen k ds _ h3)
  | .tup ds, _, h => by
    cases h with
    | tup h2 h3 => exact .tup (h2.widen k) (DaAll.widen k ds _ h3)
  | .dic ks ds, _, h => by
    cases h with
    | dic h1 h2 h3 h4 => exact .dic (fun z => (k _ z).elim h1 fun e => absurd (e _ h2) Bool.false_ne_true) h2 h3 (DaAll.widen k ds _ h4)
  | .obj cn ns ds, _, h => by
    cases h with
    | obj h1 h2 h3 h4 h5 => exact .obj (fun z => (k _ z).elim h1 fun e => absurd (e _ h3) Bool.false_ne_true) h2 h3 h4 (DaAll.widen k ds _ h5)
  | .err cn ns ds, _, h => by
    cases h with
    | err h1 h2 h3 h4 => exact .err (h1.widen k) h2 h3 (DaAll.widen k ds _ h4)
  | .pen, _, h => by cases h; exact .pen
theorem DaAll.widen (k : ∀ p, av' p → av p ∨ Fr H p) : ∀ (ds : List Dt) (vs : List V), DaAll c av H vs ds → DaAll c av' H vs ds
  | [], _, h => by cases h; exact .nil
  | d :: ds, _, h => by
    cases h with
    | cons h1 h2 => exact .cons (Da.widen k d _ h1) (DaAll.widen k ds _ h2)
end
theorem DaAll.get2 : ∀ {vs : List V} {ds : List Dt} {i : Nat} {v : V}, DaAll c av H vs ds → vs[i]? = some v → ∃ d, ds[i]? = some d ∧ Da c av H v d
  | _, _, 0, _, .cons h _, e => by
    rw [List.getElem?_cons_zero] at e
    cases e
    exact ⟨_, List.getElem?_cons_zero, h⟩
  | _, _, i + 1, _, .cons _ t, e => by
    rw [List.getElem?_cons_succ] at e
    obtain ⟨v, h1, h2⟩ := DaAll.get2 t e
    exact ⟨v, by rw [List.getElem?_cons_succ]; exact h1, h2⟩
  | _, _, _, _, .nil, e => by simp at e
theorem itd_list {p : Addr} {vs : List V} {ds : List Dt} (h1 : ¬ av p) (h2 : H p = some (.lst vs)) (h3 : DaAll c av H vs ds) : ItD c av H (Itl c.K p) ds where
  goes := fun i H' hi k => by
    rw [← h3.length] at hi
    exact ⟨vs, vs[i], SqL.of (k _ _ h1 h2 rfl), by simp [hi]⟩
  stops := fun H' k => ⟨vs, SqL.of (k _ _ h1 h2 rfl), by rw [h3.length]; exact Nat.le_refl _⟩
  yields := fun i H' x H'' av' hi k k' lv sub y => by
    obtain ⟨e, y⟩ := y
    subst e
    obtain ⟨d, q1, q2⟩ := h3.get2 (y vs (SqL.of (k _ _ h1 h2 rfl)))
    exact ⟨Same.refl _, d, q1, (q2.widen sub).keep k'⟩
theorem itd_tup {p : Addr} {vs : List V} {ds : List Dt} (h2 : TupAt c.K av H p vs) (h3 : DaAll c av H vs ds) : ItD c av H (Itt c.K p) ds where
  goes := fun i H' hi k => by
    rw [← h3.length] at hi
    exact ⟨vs, vs[i], (h2.keep k).sq, by simp [hi]⟩
  stops := fun H' k => ⟨vs, (h2.keep k).sq, by rw [h3.length]; exact Nat.le_refl _⟩
  yields := fun i H' x H'' av' hi k k' lv sub y => by
    obtain ⟨e, y⟩ := y
    subst e
    obtain ⟨d, q1, q2⟩ := h3.get2 (y vs (h2.keep k).sq)
    exact ⟨Same.refl _, d, q1, (q2.widen sub).keep k'⟩
/-- the signs of a text -/
def signs (z : Str) : List Dt := z.cps.toList.map fun s => .str ⟨#[s]⟩
theorem itd_str {z : Str} : ItD c av H (Its z) (signs z) where
  goes := fun i H' hi k => by
    unfold signs at hi
    rw [List.length_map, Array.length_toList] at hi
    exact hi
  stops := fun H' k => by
    show z.cps.size ≤ (signs z).length
    unfold signs
    rw [List.length_map, Array.length_toList]
    exact Nat.le_refl _
  yields := fun i H' x H'' av' hi k k' lv sub y => by
    obtain ⟨e, s, hs, ex⟩ := y
    subst e ex
    refine ⟨Same.refl _, .str ⟨#[s]⟩, ?_, .str _⟩
    unfold signs
    rw [List.getElem?_map, Array.getElem?_toList, hs]
    rfl
/-- lo, lo + 1, .. (m of them) -/
def upTo (lo : Int) (m : Nat) : List Dt := (List.range m).map fun i => .int (lo + (i : Nat))
theorem upTo_length (lo : Int) (m : Nat) : (upTo lo m).length = m := by
  unfold upTo
  rw [List.length_map, List.length_range]
theorem upTo_get {lo : Int} {m i : Nat} (h : i < m) : (upTo lo m)[i]? = some (.int (lo + (i : Nat))) := by
  unfold upTo
  rw [List.getElem?_map, List.getElem?_range h]
  rfl
theorem itd_rng {lo : Int} {m : Nat} : ItD c av H (Itr lo m) (upTo lo m) where
  goes := fun i H' hi k => by
    rw [upTo_length] at hi
    exact hi
  stops := fun H' k => by
    show m ≤ (upTo lo m).length
    rw [upTo_length]
    exact Nat.le_refl _
  yields := fun i H' x H'' av' hi k k' lv sub y => by
    obtain ⟨e, ex⟩ := y
    subst e ex
    rw [upTo_length] at hi
    exact ⟨Same.refl _, _, upTo_get hi, .int _⟩
end
def Wi (c : Fc) (Γ : List Sl) (n : Nat) (wi : TI) (k : List Dt → Nat → Prop) : Prop := ∀ ρ av o σ H, SS c ρ av o Γ n σ H → ∀ R : It → Hp → Prop,
  (∀ J H' ds n', SS c ρ av o Γ n' σ H' → Stp c.a H H' → ItD c.toWc av H' J ds → k ds n' → R J H') → wi σ H R
def seqD : Dt → Option (List Dt)
  | .lst ds => some ds
  | .tup ds => some ds
  | .str z => some (signs z)
  | _ => none
section
variable {c : Fc} {Γ : List Sl} {n : Nat} {k : List Dt → Nat → Prop} {te : TE} {ta : TA}
theorem wi_sq (h : We c Γ n te fun d m => ∃ ds, seqD d = some ds ∧ k ds m) : Wi c Γ n (iSq c.K te) k := by
  intro ρ av o σ H S R q
  refine h ρ av o σ H S _ fun v H' d m S' x h' kk => ?_
  obtain ⟨ds, e, kk⟩ := kk
  cases h' with
  | lst h1 h2 h3 =>
    cases e
    exact .inl ⟨_, rfl, ⟨_, SqL.of h2⟩, q _ H' _ m S' x (itd_list h1 h2 h3) kk⟩
  | tup h2 h3 =>
    cases e
    exact .inr (.inl ⟨_, rfl, ⟨_, h2.sq⟩, q _ H' _ m S' x (itd_tup h2 h3) kk⟩)
  | str z =>
    cases e
    exact .inr (.inr ⟨_, rfl, q _ H' _ m S' x itd_str kk⟩)
  | _ => cases e
theorem wi_rng1 (h : Wa c Γ n ta fun ds m => ∃ j : Int, ds = [.int j] ∧ (-(2 ^ 62) ≤ j ∧ j < 2 ^ 62) ∧ k (upTo 0 j.toNat) m) : Wi c Γ n (iRng1 ta) k := by
  intro ρ av o σ H S R q
  refine h ρ av o σ H S _ fun vs H' ds m S' x h' kk => ?_
  obtain ⟨j, rfl, hj, kk⟩ := kk
  cases h' with
  | cons a b =>
    cases a; cases b
    exact ⟨j, rfl, hj.1, hj.2, q _ H' _ m S' x itd_rng kk⟩
theorem wi_rng2 (h : Wa c Γ n ta fun ds m => ∃ i j : Int, ds = [.int i, .int j] ∧ (-(2 ^ 62) ≤ i ∧ i < 2 ^ 62 ∧ -(2 ^ 62) ≤ j ∧ j < 2 ^ 62) ∧ k (upTo i (j - i).toNat) m) : Wi c Γ n (iRng2 ta) k := by
  intro ρ av o σ H S R q
  refine h ρ av o σ H S _ fun vs H' ds m S' x h' kk => ?_
  obtain ⟨i, j, rfl, hj, kk⟩ := kk
  cases h' with
  | cons a b =>
    cases b with
    | cons b' bb =>
      cases a; cases b'; cases bb
      exact ⟨i, j, rfl, hj, q _ H' _ m S' x itd_rng kk⟩
end

/-! ### targets -/
/-- σ' is σ but at the places js -/
def But (js : List Nat) (σ σ' : L2.St) : Prop := σ'.length = σ.length ∧ ∀ i : Nat, i ∉ js → σ'[i]? = σ[i]?
def Wg (c : Fc) (Γ : List Sl) (n : Nat) (js : List Nat) (g : TG) (d : Dt) (k : List Sl → Nat → Prop) : Prop := ∀ ρ av o σ H v, SS c ρ av o Γ n σ H → Da c.toWc av H v d → ∀ Q : L2.St → Hp → Prop,
  (∀ Γ' σ', SS c ρ av o Γ' n σ' H → But js σ σ' → k Γ' n → Q σ' H) → g v σ H Q
def Wgs (c : Fc) (Γ : List Sl) (n : Nat) (js : List Nat) (g : TGs) (ds : List Dt) (k : List Sl → Nat → Prop) : Prop := ∀ ρ av o σ H vs, SS c ρ av o Γ n σ H → DaAll c.toWc av H vs ds → ∀ Q : L2.St → Hp → Prop,
  (∀ Γ' σ', SS c ρ av o Γ' n σ' H → But js σ σ' → k Γ' n → Q σ' H) → g vs σ H Q
section
variable {c : Fc} {Γ : List Sl} {n i : Nat} {js ks : List Nat} {d : Dt} {ds : List Dt} {k : List Sl → Nat → Prop} {g : TG} {gs : TGs} {te : TE} {N : Nd}
theorem But.set {σ : L2.St} {v : Option V} : But [i] σ (σ.set i v) := ⟨List.length_set, fun j hj => List.getElem?_set_ne (fun e => hj (by simp [e]))⟩
theorem But.refl {σ : L2.St} : But js σ σ := ⟨rfl, fun _ _ => rfl⟩
theorem But.trans {σ σ1 σ2 : L2.St} (a : But js σ σ1) (b : But ks σ1 σ2) : But (js ++ ks) σ σ2 := ⟨b.1.trans a.1, fun i hi => (b.2 i fun z => hi (List.mem_append_right _ z)).trans (a.2 i fun z => hi (List.mem_append_left _ z))⟩
theorem wg_name (h : k (Γ.set i (.da d)) n) : Wg c Γ n [i] (gName i) d k := fun ρ av o σ H v S da Q q => q _ _ (S.set i da) But.set h
theorem wgs_nil (h : k Γ n) : Wgs c Γ n [] gNil [] k := fun ρ av o σ H vs S da Q q => by
  cases da
  exact ⟨rfl, q Γ σ S But.refl h⟩
theorem wgs_cons (h : Wg c Γ n js g d fun Γ' n' => Wgs c Γ' n' ks gs ds k) : Wgs c Γ n (js ++ ks) (gCons g gs) (d :: ds) k := fun ρ av o σ H vs S da Q q => by
  cases da with
  | cons h1 h2 =>
    refine ⟨_, _, rfl, h ρ av o σ H _ S h1 _ fun Γ' σ' S' b k' => ?_⟩
    exact k' ρ av o σ' H _ S' h2 _ fun Γ2 σ2 S2 b2 k2 => q Γ2 σ2 S2 (b.trans b2) k2
theorem wg_tup {m : Nat} (hm : ds.length = m) (h : Wgs c Γ n js gs ds k) : Wg c Γ n js (gTup c.K m gs) (.tup ds) k := fun ρ av o σ H v S da Q q => by
  cases da with
  | tup h2 h3 => exact ⟨_, _, rfl, h2.sq, by rw [h3.length]; exact hm, h ρ av o σ H _ S h3 Q q⟩
/-- a, b = .. -/
theorem w_asgG (h : We c Γ n te fun d n' => Wg c Γ n' js g d N.nx) : Ws c Γ n (tAsg te g) N := by
  intro ρ av o σ H S D L
  refine h ρ av o σ H S _ fun v H' d n' S' x h' k' => ?_
  exact k' ρ av o σ H' v S' h' _ fun Γ' σ' S2 _ q => L.nx av o _ n' _ H' S2 q
theorem w_par {i j : Nat} {ta : TA} (h : Wa c Γ n ta fun ds n' => ∃ d e, ds = [d, e] ∧ N.nx ((Γ.set i (.da d)).set j (.da e)) n') : Ws c Γ n (tPar i j ta) N := by
  intro ρ av o σ H S D L
  refine h ρ av o σ H S _ fun vs H' ds n' S' x h' k' => ?_
  obtain ⟨d, e, rfl, k'⟩ := k'
  cases h' with
  | cons a b =>
    cases b with
    | cons b bb =>
      cases bb
      exact ⟨_, _, rfl, L.nx av o _ n' _ H' ((S'.set i a).set j b) k'⟩
end

/-! ### loops -/
def outS : Sl → Sl
  | .ol _ ds => .ol true ds
  | s => s
def inS : Sl → Sl → Sl
  | .ol b _, .ol true ds => .ol b ds
  | .un, .ol true _ => .un
  | .da _, .ol true _ => .un
  | _, s => s
/-- behind a loop: the lists that were one's own ahead of it -/
def back (Γ Γ' : List Sl) : List Sl := List.zipWith inS Γ Γ'
section
variable {c : Fc} {ρ : Rt} {av : Addr → Prop} {o : Nat → Addr} {Γ : List Sl} {n : Nat} {σ : L2.St} {H : Hp}
/-- the root of a loop -/
def SS.root (_ : SS c ρ av o Γ n σ H) : Rt := ⟨H, av, fun p => p = c.a ∨ ∃ (i : Nat) (b : Bool) (ds : List Dt), Γ[i]? = some (Sl.ol b ds) ∧ o i = p, o, ρ.rv, ρ.ln⟩
theorem SS.root_kp (S : SS c ρ av o Γ n σ H) {H' : Hp} (k : Kp S.root.mt H H') : Kp ρ.mt ρ.H0 H' := by
  intro b u hb e t
  refine k b u ?_ (S.kp b u hb e t) t
  rintro (z | ⟨i, out, ds, h1, h2⟩)
  · exact hb (z ▸ S.pm)
  · obtain ⟨_, _, h3, _⟩ := S.own i out ds h1
    rw [h2] at h3
    cases out with
    | true => exact hb h3.1
    | false =>
      have h3' : Fr ρ.H0 b := h3.1
      rw [h3' u e] at t
      cases t
theorem SS.root_mt (S : SS c ρ av o Γ n σ H) : ∀ p, S.root.mt p → av p := by
  rintro p (z | ⟨i, out, ds, h1, h2⟩)
  · exact z ▸ S.pa
  · rw [← h2]
    exact (S.own i out ds h1).2.1
theorem SS.enter (S : SS c ρ av o Γ n σ H) : SS c S.root av o (Γ.map outS) n σ H := by
  have back : ∀ (i : Nat) (s : Sl), (Γ.map outS)[i]? = some s → ∃ s', Γ[i]? = some s' ∧ outS s' = s := fun i s h => by
    rw [List.getElem?_map] at h
    cases e : Γ[i]? with
    | none => rw [e] at h; cases h
    | some s' => rw [e] at h; exact ⟨s', rfl, Option.some.inj h⟩
  have bol : ∀ (i : Nat) (b : Bool) (ds : List Dt), (Γ.map outS)[i]? = some (Sl.ol b ds) → b = true ∧ ∃ b', Γ[i]? = some (Sl.ol b' ds) := fun i b ds h => by
    obtain ⟨s', h1, h2⟩ := back i _ h
    cases s' with
    | ol b' es => cases h2; exact ⟨rfl, b', h1⟩
    | un => cases h2
    | da => cases h2
  exact {
    len := by rw [List.length_map]; exact S.len
    gl := by rw [List.length_map]; exact S.gl
    pa := S.pa
    pl := S.pl
    pm := .inl rfl
    sub := fun p h => h
    rsub := S.rsub
    msub := S.root_mt
    asub := fun p h => .inl h
    live := S.live
    live0 := S.live
    pen := S.pen
    kp := Kp.refl _ _
    ex := fun cn C x H' fs es n' h1 h2 h3 h4 h5 h6 => S.ex cn C x H' fs es n' h1 (S.root_kp h2) h3 h4 h5 h6
    dat := fun i d h => by
      obtain ⟨s', h1, h2⟩ := back i _ h
      cases s' with
      | da e =>
        cases h2
        exact S.dat i _ h1
      | un => cases h2
      | ol => cases h2
    own := fun i b ds h => by
      obtain ⟨e, b', h1⟩ := bol i b ds h
      subst e
      obtain ⟨q1, q2, q3, q4, q0, vs, q5, q6⟩ := S.own i b' ds h1
      have m : S.root.mt (o i) := .inr ⟨i, b', ds, h1, rfl⟩
      exact ⟨q1, q2, ⟨m, rfl⟩, q4, q0, vs, q5, q6⟩
    inj := fun i j b b' ds es h1 h2 e => by
      obtain ⟨_, b1, k1⟩ := bol i b ds h1
      obtain ⟨_, b2, k2⟩ := bol j b' es h2
      exact S.inj i j b1 b2 ds es k1 k2 e }
theorem zip_get {Γ Γ' : List Sl} {i : Nat} {s : Sl} (h : (back Γ Γ')[i]? = some s) : ∃ s1 s2, Γ[i]? = some s1 ∧ Γ'[i]? = some s2 ∧ inS s1 s2 = s := by
  unfold back at h
  rw [List.getElem?_zipWith] at h
  cases e1 : Γ[i]? with
  | none => rw [e1] at h; cases h
  | some s1 =>
    cases e2 : Γ'[i]? with
    | none => rw [e1, e2] at h; cases h
    | some s2 => rw [e1, e2] at h; exact ⟨s1, s2, rfl, rfl, Option.some.inj h⟩
/-- out of a loop -/
theorem SS.leave (S : SS c ρ av o Γ n σ H) {av' : Addr → Prop} {o' : Nat → Addr} {Γ' : List Sl} {n' : Nat} {σ' : L2.St} {H' : Hp} (S' : SS c S.root av' o' Γ' n' σ' H') : SS c ρ av' o' (back Γ Γ') n' σ' H' := by
  have hl : Γ'.length = Γ.length := S'.gl.trans S.gl.symm
  have bol : ∀ (i : Nat) (b : Bool) (ds : List Dt), (back Γ Γ')[i]? = some (Sl.ol b ds) → (Γ'[i]? = some (Sl.ol true ds) ∧ ∃ es, Γ[i]? = some (Sl.ol b es)) ∨ (b = false ∧ Γ'[i]? = some (Sl.ol false ds)) := fun i b ds h => by
    obtain ⟨s1, s2, e1, e2, e3⟩ := zip_get h
    cases s2 with
    | un => cases s1 <;> cases e3
    | da _ => cases s1 <;> cases e3
    | ol b2 d2 =>
      cases b2 with
      | true =>
        cases s1 with
        | un => cases e3
        | da _ => cases e3
        | ol b1 d1 => cases e3; exact .inl ⟨e2, _, e1⟩
      | false =>
        cases s1 with
        | un => cases e3; exact .inr ⟨rfl, e2⟩
        | da _ => cases e3; exact .inr ⟨rfl, e2⟩
        | ol b1 d1 => cases e3; exact .inr ⟨rfl, e2⟩
  have bol2 : ∀ (i : Nat) (b : Bool) (ds : List Dt), (back Γ Γ')[i]? = some (Sl.ol b ds) → ∃ b', Γ'[i]? = some (Sl.ol b' ds) := fun i b ds h => (bol i b ds h).elim (fun z => ⟨_, z.1⟩) fun z => ⟨_, z.2⟩
  have bda : ∀ (i : Nat) (d : Dt), (back Γ Γ')[i]? = some (Sl.da d) → Γ'[i]? = some (Sl.da d) := fun i d h => by
    obtain ⟨s1, s2, e1, e2, e3⟩ := zip_get h
    cases s2 with
    | un => cases s1 <;> cases e3
    | da _ => cases s1 <;> (cases e3; exact e2)
    | ol b2 d2 => cases b2 <;> cases s1 <;> cases e3
  have nm : ∀ p, Fr H p → ¬ ρ.mt p := fun p hp q => by
    obtain ⟨o, e, t⟩ := S.live p (S.msub p q)
    rw [hp o e] at t
    cases t
  have h0 : ∀ p, Fr H p → Fr ρ.H0 p := fun p hp u e => by
    cases t : isT u with
    | true => rfl
    | false => exact t.symm.trans (hp u (S.kp p u (nm p hp) e t))
  exact {
    len := by
      unfold back
      rw [List.length_zipWith, hl, Nat.min_self, ← hl]
      exact S'.len
    gl := by
      unfold back
      rw [List.length_zipWith, hl, Nat.min_self]
      exact S.gl
    pa := S'.pa
    pl := S'.pl
    pm := S.pm
    sub := fun p h => S'.sub p (S.sub p h)
    rsub := S'.rsub
    msub := fun p h => S'.sub p (S.msub p h)
    asub := fun p h => (S'.asub p h).elim (S.asub p) fun z => z.elim (fun z => S.asub p (S.root_mt p z)) fun z => .inr (.inr (h0 p z))
    live := S'.live
    live0 := S.live0
    pen := S'.pen
    kp := S.root_kp S'.kp
    ex := S.ex
    dat := fun i d h => S'.dat i d (bda i d h)
    own := fun i b ds h => by
      rcases bol i b ds h with ⟨h2, es, h1⟩ | ⟨hb, h2⟩
      · obtain ⟨q1, q2, q3, q4, q5⟩ := S'.own i true ds h2
        obtain ⟨r1, r2, r3, r4, r5⟩ := S.own i b es h1
        have e : o' i = o i := q3.2
        rw [← e] at r3
        exact ⟨q1, q2, r3, q4, q5⟩
      · subst hb
        obtain ⟨q1, q2, q3, q4, q5⟩ := S'.own i false ds h2
        have q3' : Fr H (o' i) := q3.1
        exact ⟨q1, q2, ⟨h0 _ q3', nm _ q3'⟩, q4, q5⟩
    inj := fun i j b b' ds es h1 h2 e => by
      obtain ⟨b1, k1⟩ := bol2 i b ds h1
      obtain ⟨b2, k2⟩ := bol2 j b' es h2
      exact S'.inj i j b1 b2 ds es k1 k2 e }
theorem back_length {Γ Γ' : List Sl} (hl : Γ'.length = Γ.length) : (back Γ Γ').length = Γ.length := by
  unfold back
  rw [List.length_zipWith, hl, Nat.min_self]
end
/-- THE RULE for a for: I by the turn -/
theorem w_for {c : Fc} {Γ : List Sl} {n : Nat} {wi : TI} {js : List Nat} {g : TG} {tb : TS} {N : Nd}
    (h : Wi c Γ n wi fun ds n1 => ∃ I : Nat → List Sl → Nat → Prop, I 0 (Γ.map outS) n1 ∧
      (∀ i Γ' m d, ds[i]? = some d → Γ'.length = Γ.length → I i Γ' m → Wg c Γ' m js g d fun Γ2 m2 => Ws c Γ2 m2 tb { nx := I (i + 1), ct := I (i + 1), rt := N.rt, bk := fun Γ3 m3 => N.nx (back Γ Γ3) m3 }) ∧
      (∀ Γ' m, Γ'.length = Γ.length → I ds.length Γ' m → N.nx (back Γ Γ') m)) : Ws c Γ n (tFor wi g tb) N := by
  intro ρ av o σ H S D L
  refine h ρ av o σ H S _ fun J H1 ds n1 S1 x1 it hk => ?_
  obtain ⟨I, i0, turn, done⟩ := hk
  have ln : ∀ {av' o' Γ' n' σ' H'}, SS c S1.root av' o' Γ' n' σ' H' → Γ'.length = Γ.length := fun S' => S'.gl.trans S.gl.symm
  refine ⟨fun i m σ' H' => m = ds.length - i ∧ i ≤ ds.length ∧ ∃ av' o' Γ' n', SS c S1.root av' o' Γ' n' σ' H' ∧ I i Γ' n', ⟨ds.length, by simp, Nat.zero_le _, av, o, _, n1, S1.enter, i0⟩, ?_⟩
  rintro i m σ' H' ⟨rfl, hi, av', o', Γ', n', S', ii⟩
  have kpr : Kp S1.root.mt H1 H' := S'.kp
  have kpa : Kp av H1 H' := kpr.more S1.root_mt
  have kpv : Kp av' H1 H' := kpr.more S'.msub
  by_cases hlt : i < ds.length
  · refine .inr ⟨it.goes i H' hlt kpa, fun σ2 H2 => ∃ av2 o2 Γ2 n2, SS c S1.root av2 o2 Γ2 n2 σ2 H2 ∧ I (i + 1) Γ2 n2, fun σ2 H2 q => ⟨ds.length - (i + 1), by omega, rfl, hlt, q⟩, ?_⟩
    intro x H2 y
    obtain ⟨sm, d, hd, da⟩ := it.yields i H' x H2 av' hlt kpa kpv S'.live (fun p hp => (S'.asub p hp).elim .inl fun z => z.elim (fun z => .inl (S1.root_mt p z)) .inr) y
    have S2 := S'.same sm
    refine turn i Γ' n' d hd (ln S') ii S1.root av' o' σ' H2 x S2 da _ fun Γ2 σ2 S3 bt ws => ?_
    refine ws S1.root av' o' σ2 H2 S3 _ ⟨fun av3 o3 Γ3 n3 σ3 H3 S4 q => ?_, fun av3 v H3 d3 n3 sub kp pn da3 q => ?_, fun av3 o3 Γ3 n3 σ3 H3 S4 q => ?_, fun av3 o3 Γ3 n3 σ3 H3 S4 q => ?_⟩
    · exact ⟨av3, o3, Γ3, n3, S4, q⟩
    · exact L.rt av3 v H3 d3 n3 sub (S1.root_kp kp) pn da3 q
    · exact L.nx av3 o3 _ n3 σ3 H3 (S1.leave S4) q
    · exact ⟨av3, o3, Γ3, n3, S4, q⟩
  · have e : i = ds.length := by omega
    subst e
    exact .inl ⟨it.stops H' kpa, L.nx av' o' _ n' σ' H' (S1.leave S') (done Γ' n' (ln S') ii)⟩
/-- THE RULE for a while: I by a number that falls -/
theorem w_while {c : Fc} {Γ : List Sl} {n : Nat} {tc : TT} {tb : TS} {N : Nd} (I : Nat → List Sl → Nat → Prop) (h0 : ∃ m, I m Γ n)
    (hs : ∀ m Γ' n', Γ'.length = Γ.length → I m Γ' n' → Wt c Γ' n' tc fun b n2 => if b = true then Ws c Γ' n2 tb { nx := fun Γ2 n3 => ∃ m', m' < m ∧ I m' Γ2 n3, ct := fun Γ2 n3 => ∃ m', m' < m ∧ I m' Γ2 n3, rt := N.rt, bk := N.nx } else N.nx Γ' n2) :
    Ws c Γ n (tWhile tc tb) N := by
  intro ρ av o σ H S D L
  obtain ⟨m0, i0⟩ := h0
  refine ⟨fun m σ' H' => ∃ av' o' Γ' n', SS c ρ av' o' Γ' n' σ' H' ∧ I m Γ' n', ⟨m0, av, o, Γ, n, S, i0⟩, ?_⟩
  rintro m σ' H' ⟨av', o', Γ', n', S', ii⟩
  refine hs m Γ' n' (S'.gl.trans S.gl.symm) ii ρ av' o' σ' H' S' _ fun b H2 n2 S2 x2 q => ?_
  cases b with
  | false => exact L.nx av' o' Γ' n2 σ' H2 S2 q
  | true =>
    refine ⟨fun σ3 H3 => ∃ m', m' < m ∧ ∃ av3 o3 Γ3 n3, SS c ρ av3 o3 Γ3 n3 σ3 H3 ∧ I m' Γ3 n3, fun σ3 H3 z => z, ?_⟩
    refine q ρ av' o' σ' H2 S2 _ ⟨fun av3 o3 Γ3 n3 σ3 H3 S4 z => ?_, L.rt, L.nx, fun av3 o3 Γ3 n3 σ3 H3 S4 z => ?_⟩
    · obtain ⟨m', hm, z⟩ := z
      exact ⟨m', hm, av3, o3, Γ3, n3, S4, z⟩
    · obtain ⟨m', hm, z⟩ := z
      exact ⟨m', hm, av3, o3, Γ3, n3, S4, z⟩
end Pb
namespace Pb
open PySem PySem.Spec PyProof.Rows L2

/-! ### comprehensions -/
theorem wipe_in {σ : L2.St} {i : Nat} : ∀ {vs : List Nat}, i ∈ vs → i < σ.length → (wipe σ vs)[i]? = some none
  | v :: vs, h, hl => by
    unfold wipe
    by_cases e : v = i
    · subst e
      exact List.getElem?_set_self (by rw [wipe_length]; exact hl)
    · rw [List.getElem?_set_ne e]
      rcases List.mem_cons.mp h with z | z
      · exact absurd z.symm e
      · exact wipe_in z hl
theorem wipe_eq {σ τ : L2.St} {vs : List Nat} (hl : σ.length = τ.length) (h : ∀ i : Nat, i ∉ vs → σ[i]? = τ[i]?) : wipe σ vs = wipe τ vs := by
  apply List.ext_getElem?
  intro i
  by_cases hi : i ∈ vs
  · by_cases hz : i < σ.length
    · rw [wipe_in hi hz, wipe_in hi (hl ▸ hz)]
    · rw [List.getElem?_eq_none (by rw [wipe_length]; omega), List.getElem?_eq_none (by rw [wipe_length]; omega)]
  · rw [wipe_out hi, wipe_out hi]
    exact h i hi
theorem wipe_but {σ σ2 : L2.St} {vs js : List Nat} (b : But js (wipe σ vs) σ2) (hj : ∀ j ∈ js, j ∈ vs) : wipe σ2 vs = wipe σ vs := by
  refine wipe_eq (b.1.trans (wipe_length σ vs)) fun i hi => ?_
  rw [b.2 i fun z => hi (hj i z), wipe_out hi]
def wipeG (Γ : List Sl) : List Nat → List Sl
  | [] => Γ
  | v :: vs => (wipeG Γ vs).set v .un
theorem wipeG_length (Γ : List Sl) : ∀ vs : List Nat, (wipeG Γ vs).length = Γ.length
  | [] => rfl
  | v :: vs => by unfold wipeG; rw [List.length_set, wipeG_length Γ vs]
theorem wipeG_some {Γ : List Sl} {i : Nat} {s : Sl} : ∀ {vs : List Nat}, (wipeG Γ vs)[i]? = some s → s = .un ∨ (Γ[i]? = some s ∧ i ∉ vs)
  | [], h => .inr ⟨h, by simp⟩
  | v :: vs, h => by
    unfold wipeG at h
    by_cases e : v = i
    · subst e
      have hl : v < (wipeG Γ vs).length := by
        have := (List.getElem?_eq_some_iff.mp h).1
        rwa [List.length_set] at this
      rw [List.getElem?_set_self hl] at h
      cases h
      exact .inl rfl
    · rw [List.getElem?_set_ne e] at h
      rcases wipeG_some h with z | ⟨z1, z2⟩
      · exact .inl z
      · exact .inr ⟨z1, fun z => (List.mem_cons.mp z).elim (fun q => e q.symm) z2⟩
section
variable {c : Fc} {ρ : Rt} {av : Addr → Prop} {o : Nat → Addr} {Γ : List Sl} {n : Nat} {σ : L2.St} {H : Hp}
theorem SS.wipe (S : SS c ρ av o Γ n σ H) (vs : List Nat) : SS c ρ av o (wipeG Γ vs) n (L2.wipe σ vs) H :=
  S.forget (by rw [wipe_length, wipeG_length]; exact S.len) (wipeG_length Γ vs) fun i s h => (wipeG_some h).elim .inl fun z => .inr ⟨z.1, wipe_out z.2⟩
theorem SS.fresh0 (S : SS c ρ av o Γ n σ H) {p : Addr} (hp : H p = none) : Fr ρ.H0 p := fun u e => by
  have nm : ¬ ρ.mt p := fun q => S.live.new hp (S.msub p q)
  cases t : isT u with
  | true => rfl
  | false =>
    have z := S.kp p u nm e t
    rw [hp] at z
    cases z
/-- a new list, kept apart -/
theorem SS.apart (S : SS c ρ av o Γ n σ H) {p : Addr} (hp : H p = none) (u : HO) (hu : isT u = false := by rfl) : SS c ρ (fun q => av q ∨ q = p) o Γ n σ (upd H p u) where
  len := S.len
  gl := S.gl
  pa := .inl S.pa
  pl := fun z => z.elim S.pl fun e => by
    obtain ⟨_, _, _, q, _⟩ := S.pen
    rw [e, hp] at q
    cases q
  pm := S.pm
  sub := fun q h => .inl (S.sub q h)
  rsub := fun q h => .inl (S.rsub q h)
  msub := fun q h => .inl (S.msub q h)
  asub := fun q h => h.elim (S.asub q) fun e => .inr (.inr (e ▸ S.fresh0 hp))
  live := fun q h => h.elim (S.live.same (same_new hp) q) fun e => ⟨u, by rw [e, upd_same], hu⟩
  live0 := S.live0
  pen := S.pen.same (same_new hp)
  kp := S.kp.trans (same_kp (same_new hp))
  ex := S.ex
  dat := fun i d h => by
    obtain ⟨v, h1, h2⟩ := S.dat i d h
    exact ⟨v, h1, (h2.more hp).keep (same_kp (same_new hp))⟩
  own := fun i b ds h => by
    obtain ⟨h1, h2, h3, h4, h0, vs, h5, h6⟩ := S.own i b ds h
    exact ⟨h1, .inl h2, h3, h4, h0, vs, same_new hp _ _ h5, (h6.more hp).keep (same_kp (same_new hp))⟩
  inj := S.inj
/-- a list that is kept apart, and is in no slot, changes -/
theorem SS.turn (S : SS c ρ av o Γ n σ H) {p : Addr} (ha : av p) (h0 : Fr ρ.H0 p) (hpa : p ≠ c.a ∧ p ≠ c.l) (ho : ∀ (i : Nat) (b : Bool) (ds : List Dt), Γ[i]? = some (Sl.ol b ds) → o i ≠ p) {w0 : HO} (hw : H p = some w0) (ht : isT w0 = false) (hc : isC w0 = false) (u : HO) (hu : isT u = false) : SS c ρ av o Γ n σ (upd H p u) := by
  have kp : Kp av H (upd H p u) := fun b w hb e _ => by
    have hne : b ≠ p := fun z => hb (by rw [z]; exact ha)
    rw [upd_ne hne]
    exact e
  exact {
    len := S.len
    gl := S.gl
    pa := S.pa
    pl := S.pl
    pm := S.pm
    sub := S.sub
    rsub := S.rsub
    msub := S.msub
    asub := S.asub
    live := fun q h => by
      by_cases e : q = p
      · exact ⟨u, by rw [e, upd_same], hu⟩
      · rw [upd_ne e]; exact S.live q h
    live0 := S.live0
    pen := S.pen.upd hpa.1 hpa.2 hw ht hc
    kp := fun b w hb e t => by
      have hne : b ≠ p := fun z => by
        rw [z] at e
        rw [h0 w e] at t
        cases t
      rw [upd_ne hne]
      exact S.kp b w hb e t
    ex := S.ex
    dat := fun i d h => by
      obtain ⟨v, h1, h2⟩ := S.dat i d h
      exact ⟨v, h1, h2.keep kp⟩
    own := fun i b ds h => by
      obtain ⟨h1, h2, h3, h4, h0, vs, h5, h6⟩ := S.own i b ds h
      exact ⟨h1, h2, h3, h4, h0, vs, by rw [upd_ne (ho i b ds h)]; exact h5, h6.keep kp⟩
    inj := S.inj }
end
/-- a new list, told to the taker -/
def Wn (c : Fc) (Γ : List Sl) (n : Nat) (te : TE) (k : List Dt → Nat → Prop) : Prop := ∀ ρ av o σ H, SS c ρ av o Γ n σ H → ∀ Q : VK,
  (∀ p vs H' ds n', SS c ρ (fun q => av q ∨ q = p) o Γ n' σ H' → ¬ av p → Stp c.a H H' → Fr ρ.H0 p → H' p = some (.lst vs) → DaAll c.toWc (fun q => av q ∨ q = p) H' vs ds → k ds n' → Q (.ref p) H') → te σ H Q
/-- szOk of one more -/
def szLt (n : Nat) : Bool := Nat.blt n 16777216
theorem szlt {n : Nat} (h : szLt n = true) : n < sizeLine := by
  rw [sizeLine_eq]
  exact Nat.le_of_ble_eq_true h
section
variable {c : Fc} {Γ : List Sl} {n : Nat} {k : Kd} {wi : TI} {g : TG} {tt : TT} {te : TE} {vs js : List Nat} {ta : TA}
/-- what is asked of a comprehension: I by the turn, the list so far, the draws left -/
def LcAsk (c : Fc) (Γ : List Sl) (js vs : List Nat) (g : TG) (tt : TT) (te : TE) (ds : List Dt) (n : Nat) (k : List Dt → Nat → Prop) : Prop := ∃ I : Nat → List Dt → Nat → Prop, I 0 [] n ∧
  (∀ i es m d, ds[i]? = some d → I i es m → Wg c (wipeG Γ vs) m js g d fun Γ2 m2 => Wt c Γ2 m2 tt fun b m3 => if b = true then We c Γ2 m3 te fun e m4 => szLt es.length = true ∧ I (i + 1) (es ++ [e]) m4 else I (i + 1) es m3) ∧
  ∀ es m, I ds.length es m → k es m
theorem wn_lc {k : List Dt → Nat → Prop} (hj : ∀ j ∈ js, j ∈ vs) (h : Wi c Γ n wi fun ds n1 => LcAsk c Γ js vs g tt te ds n1 k) : Wn c Γ n (tLc wi g tt te vs) k := by
  intro ρ av o σ H S Q hQ
  refine h ρ av o σ H S _ fun J H1 ds n1 S1 x1 it hk => ?_
  obtain ⟨I, i0, turn, done⟩ := hk
  intro D hD
  have nD : ¬ av D := S1.live.new hD
  have h0 := S1.fresh0 hD
  have nDa : D ≠ c.a ∧ D ≠ c.l := ⟨fun z => nD (z ▸ S1.pa), fun z => by
    obtain ⟨_, _, _, q, _⟩ := S1.pen
    rw [← z, hD] at q
    cases q⟩
  have SD := S1.apart hD (.lst [])
  have nDo : ∀ (i : Nat) (b : Bool) (zs : List Dt), Γ[i]? = some (Sl.ol b zs) → o i ≠ D := fun i b zs q z => nD (z ▸ (S1.own i b zs q).2.1)
  refine ⟨fun i m H' => m = ds.length - i ∧ i ≤ ds.length ∧ ∃ acc es n', SS c ρ (fun q => av q ∨ q = D) o Γ n' σ H' ∧ Kp (fun q => q = c.a ∨ q = D) H1 H' ∧ H' D = some (.lst acc) ∧ DaAll c.toWc (fun q => av q ∨ q = D) H' acc es ∧ I i es n',
    ⟨ds.length, by simp, Nat.zero_le _, [], [], n1, SD, same_kp (same_new hD), upd_same, .nil, i0⟩, ?_⟩
  rintro i m H' ⟨rfl, hi, acc, es, n', S', kp', hacc, da', ii⟩
  have kpa : Kp av H1 H' := fun b u hb e t => kp' b u (fun z => z.elim (fun z => hb (z ▸ S1.pa)) fun z => by rw [z, hD] at e; cases e) e t
  have kpv : Kp (fun q => av q ∨ q = D) H1 H' := kpa.more fun p z => .inl z
  by_cases hlt : i < ds.length
  · refine .inr ⟨it.goes i H' hlt kpa, fun H2 => ∃ acc es n', SS c ρ (fun q => av q ∨ q = D) o Γ n' σ H2 ∧ Kp (fun q => q = c.a ∨ q = D) H1 H2 ∧ H2 D = some (.lst acc) ∧ DaAll c.toWc (fun q => av q ∨ q = D) H2 acc es ∧ I (i + 1) es n',
      fun H2 q => ⟨ds.length - (i + 1), by omega, rfl, hlt, q⟩, ?_⟩
    intro x H2 y
    obtain ⟨sm, d, hd, da⟩ := it.yields i H' x H2 _ hlt kpa kpv S'.live (fun p hp => hp.elim .inl fun z => .inr (z ▸ fr_none hD)) y
    have S2 := S'.same sm
    have sub : ∀ {H3 n3}, Stp c.a H2 H3 → Pen c.a c.l c.ns c.T n3 H3 → SS c ρ (fun q => av q ∨ q = D) o Γ n3 σ H3 := fun x p => S2.stp x p
    have kp2 : Kp (fun q => q = c.a ∨ q = D) H1 H2 := kp'.trans (same_kp sm)
    have hacc2 := sm _ _ hacc
    have da2 := da'.keep (av := fun q => av q ∨ q = D) (same_kp sm)
    refine turn i es n' d hd ii ρ _ o (wipe σ vs) H2 x (S2.wipe vs) da _ fun Γ2 σ2 S3 bt wt => ⟨wipe_but bt hj, ?_⟩
    refine wt ρ _ o σ2 H2 S3 _ fun b H3 n3 S4 x4 q4 => ?_
    have hacc3 := x4 _ _ nDa.1 hacc2 rfl
    have da3 := da2.keep (x4.kp (av := fun q => av q ∨ q = D) (.inl S1.pa))
    have kp3 : Kp (fun q => q = c.a ∨ q = D) H1 H3 := kp2.trans (x4.kp (.inl rfl))
    cases b with
    | false => exact ⟨acc, es, n3, sub x4 S4.pen, kp3, hacc3, da3, q4⟩
    | true =>
      refine q4 ρ _ o σ2 H3 S4 _ fun y H4 e n4 S5 x5 h5 q5 => ?_
      have hacc4 := x5 _ _ nDa.1 hacc3 rfl
      have da4 := da3.keep (x5.kp (av := fun q => av q ∨ q = D) (.inl S1.pa))
      have S6 := sub (x4.trans x5) S5.pen
      have kpD : Kp (fun q => av q ∨ q = D) H4 (upd H4 D (.lst (acc ++ [y]))) := fun b u hb e _ => by
        have hne : b ≠ D := fun z => hb (.inr z)
        rw [upd_ne hne]
        exact e
      refine ⟨acc, hacc4, by rw [da4.length]; exact szlt q5.1, acc ++ [y], es ++ [e], n4, ?_, ?_, upd_same, ?_, q5.2⟩
      · exact S6.turn (.inr rfl) h0 nDa nDo hacc4 rfl rfl _ rfl
      · refine (kp3.trans (x5.kp (.inl rfl))).trans fun b u hb e _ => ?_
        have hne : b ≠ D := fun z => hb (.inr z)
        rw [upd_ne hne]
        exact e
      · exact (da4.append (.cons h5 .nil)).keep kpD
  · have e : i = ds.length := by omega
    subst e
    refine .inl ⟨it.stops H' kpa, hQ D acc H' es n' S' nD ?_ h0 hacc da' (done es n' ii)⟩
    refine x1.trans fun b u hb e t => kp' b u (fun z => z.elim hb fun z => ?_) e t
    rw [z, hD] at e
    cases e
/-- a new list is data -/
theorem w_new {te : TE} (h : Wn c Γ n te fun ds m => k (.lst ds) m) : We c Γ n te k := by
  intro ρ av o σ H S Q hQ
  refine h ρ av o σ H S Q fun p vs H' ds m S' np x h0 hp da kk => ?_
  refine hQ (.ref p) H' (.lst ds) m ?_ x (.lst np hp (da.less fun q z => .inl z)) kk
  exact S.stp x S'.pen
theorem w_lc (hj : ∀ j ∈ js, j ∈ vs) (h : Wi c Γ n wi fun ds n1 => LcAsk c Γ js vs g tt te ds n1 fun es m => k (.lst es) m) : We c Γ n (tLc wi g tt te vs) k := w_new (wn_lc hj h)
theorem wn_lst {k : List Dt → Nat → Prop} (h : Wa c Γ n ta fun ds n1 => szOk ds.length = true ∧ k ds n1) : Wn c Γ n (tLst ta) k := by
  intro ρ av o σ H S Q hQ
  refine h ρ av o σ H S _ fun vs H1 ds n1 S1 x1 h1 k1 => ?_
  refine ⟨by rw [h1.length]; exact szl k1.1, fun p hp => ?_⟩
  exact hQ p vs _ ds n1 (S1.apart hp _) (S1.live.new hp) (x1.trans (Stp.same (same_new hp))) (S1.fresh0 hp) upd_same ((h1.more hp).keep (same_kp (same_new hp))) k1.2
theorem wt_yes {kt : Bool → Nat → Prop} (h : kt true n) : Wt c Γ n tYes kt := fun ρ av o σ H S Q q => q true H n S (Stp.refl _ _) h
end

/-! ### lists of one's own -/
section
variable {c : Fc} {Γ : List Sl} {n i : Nat} {N : Nd} {te : TE} {k : Kd} {b : Bool} {ds : List Dt}
theorem w_own (h : Wn c Γ n te fun ds m => N.nx (Γ.set i (.ol false ds)) m) : Ws c Γ n (tAsg te (gName i)) N := by
  intro ρ av o σ H S D L
  refine h ρ av o σ H S _ fun p vs H' ds m S' np x h0 hp da kk => ?_
  refine L.nx (fun q => av q ∨ q = p) (fun j => if j = i then p else o j) _ m (σ.set i (some (.ref p))) H' ?_ kk
  have old : ∀ (j : Nat) (s : Sl), (Γ.set i (.ol false ds))[j]? = some s → j ≠ i → Γ[j]? = some s := fun j s q hj => by
    rwa [List.getElem?_set_ne (Ne.symm hj)] at q
  have new : ∀ (s : Sl), (Γ.set i (.ol false ds))[i]? = some s → s = .ol false ds ∧ i < Γ.length := fun s q => by
    have hl : i < Γ.length := by
      have := (List.getElem?_eq_some_iff.mp q).1
      rwa [List.length_set] at this
    rw [List.getElem?_set_self hl] at q
    cases q
    exact ⟨rfl, hl⟩
  have npa : p ≠ c.a ∧ p ≠ c.l := ⟨fun z => np (z ▸ S.pa), fun z => S'.pl (.inr z.symm)⟩
  have nrv : ¬ ρ.rv p := fun z => np (S.rsub p z)
  exact {
    len := by rw [List.length_set, List.length_set]; exact S.len
    gl := by rw [List.length_set]; exact S.gl
    pa := S'.pa
    pl := S'.pl
    pm := S'.pm
    sub := S'.sub
    rsub := S'.rsub
    msub := S'.msub
    asub := S'.asub
    live := S'.live
    live0 := S'.live0
    pen := S'.pen
    kp := S'.kp
    ex := S'.ex
    dat := fun j d q => by
      by_cases hj : j = i
      · subst hj
        obtain ⟨z, _⟩ := new _ q
        cases z
      · obtain ⟨v, h1, h2⟩ := S'.dat j d (old j _ q hj)
        exact ⟨v, by rw [List.getElem?_set_ne (Ne.symm hj)]; exact h1, h2⟩
    own := fun j b es q => by
      by_cases hj : j = i
      · subst hj
        obtain ⟨z, hl⟩ := new _ q
        cases z
        rw [if_pos rfl]
        exact ⟨List.getElem?_set_self (by rw [S.len]; exact hl), .inr rfl, ⟨h0, fun z => np (S.msub p z)⟩, npa, nrv, vs, hp, da⟩
      · obtain ⟨h1, h2, h3, h4, h00, ws, h5, h6⟩ := S'.own j b es (old j _ q hj)
        rw [if_neg hj]
        exact ⟨by rw [List.getElem?_set_ne (Ne.symm hj)]; exact h1, h2, h3, h4, h00, ws, h5, h6⟩
    inj := fun j l b b' es fs q r e => by
      by_cases hj : j = i
      · by_cases hl : l = i
        · rw [hj, hl]
        · rw [if_pos hj, if_neg hl] at e
          exact absurd (e ▸ (S.own l b' fs (old l _ r hl)).2.1) np
      · by_cases hl : l = i
        · rw [if_neg hj, if_pos hl] at e
          exact absurd (e ▸ (S.own j b es (old j _ q hj)).2.1) np
        · rw [if_neg hj, if_neg hl] at e
          exact S'.inj j l b b' es fs (old j _ q hj) (old l _ r hl) e }
/-- found.append(e) -/
theorem w_append (hi : Γ[i]? = some (Sl.ol b ds)) (hz : szLt ds.length = true) (h : We c Γ n te fun d m => N.nx (Γ.set i (.ol b (ds ++ [d]))) m) : Ws c Γ n (tDrop (tBM c.K "list" rAppend (tVar i) (tCons te tNil))) N := by
  intro ρ av o σ H S D L
  obtain ⟨h1, h2, h3, h4, h0, vs, h5, h6⟩ := S.own i b ds hi
  refine ⟨.ref (o i), h1, .inl ⟨rfl, vs, SqL.of h5⟩, ?_⟩
  refine h ρ av o σ H S _ fun y H' d m S' x h' kk => ?_
  have h5' := x _ _ h4.1 h5 rfl
  have h6' := h6.keep (x.kp S.pa)
  refine ⟨o i, vs, y, rfl, rfl, h5', by rw [h6.length]; exact szlt hz, ?_⟩
  refine L.nx av o _ m σ _ ?_ kk
  have kp : Kp av H' (upd H' (o i) (.lst (vs ++ [y]))) := fun b w hb e _ => by
    have hne : b ≠ o i := fun z => hb (by rw [z]; exact h2)
    rw [upd_ne hne]
    exact e
  have old : ∀ (j : Nat) (s : Sl), (Γ.set i (.ol b (ds ++ [d])))[j]? = some s → j ≠ i → Γ[j]? = some s := fun j s q hj => by
    rwa [List.getElem?_set_ne (Ne.symm hj)] at q
  have hl : i < Γ.length := (List.getElem?_eq_some_iff.mp hi).1
  have new : ∀ (s : Sl), (Γ.set i (.ol b (ds ++ [d])))[i]? = some s → s = .ol b (ds ++ [d]) := fun s q => by
    rw [List.getElem?_set_self hl] at q
    cases q
    rfl
  exact {
    len := by rw [List.length_set]; exact S'.len
    gl := by rw [List.length_set]; exact S'.gl
    pa := S'.pa
    pl := S'.pl
    pm := S'.pm
    sub := S'.sub
    rsub := S'.rsub
    msub := S'.msub
    asub := S'.asub
    live := fun q h => by
      by_cases e : q = o i
      · exact ⟨_, by rw [e, upd_same], rfl⟩
      · rw [upd_ne e]; exact S'.live q h
    live0 := S'.live0
    pen := S'.pen.upd h4.1 h4.2 h5' rfl rfl
    kp := fun q w hq e t => by
      have hne : q ≠ o i := fun z => by
        rw [z] at hq e
        cases b with
        | true => exact hq h3.1
        | false =>
          have h3' : Fr ρ.H0 (o i) := h3.1
          rw [h3' w e] at t
          cases t
      rw [upd_ne hne]
      exact S'.kp q w hq e t
    ex := S'.ex
    dat := fun j e q => by
      by_cases hj : j = i
      · subst hj
        cases new _ q
      · obtain ⟨v, q1, q2⟩ := S'.dat j e (old j _ q hj)
        exact ⟨v, q1, q2.keep kp⟩
    own := fun j b' es q => by
      by_cases hj : j = i
      · subst hj
        cases new _ q
        exact ⟨h1, h2, h3, h4, h0, _, upd_same, (h6'.append (.cons h' .nil)).keep kp⟩
      · obtain ⟨q1, q2, q3, q4, q0, ws, q5, q6⟩ := S'.own j b' es (old j _ q hj)
        refine ⟨q1, q2, q3, q4, q0, ws, ?_, q6.keep kp⟩
        have hne : o j ≠ o i := fun z => hj (S'.inj j i b' b es ds (old j _ q hj) hi z)
        rw [upd_ne hne]
        exact q5
    inj := fun j l b1 b2 es fs q r e => by
      have w : ∀ (j : Nat) (b' : Bool) (es : List Dt), (Γ.set i (.ol b (ds ++ [d])))[j]? = some (Sl.ol b' es) → ∃ es', Γ[j]? = some (Sl.ol b' es') := fun j b' es q => by
        by_cases hj : j = i
        · subst hj
          cases new _ q
          exact ⟨ds, hi⟩
        · exact ⟨es, old j _ q hj⟩
      obtain ⟨e1, w1⟩ := w j b1 es q
      obtain ⟨e2, w2⟩ := w l b2 fs r
      exact S'.inj j l b1 b2 e1 e2 w1 w2 e }
/-- a list of one's own is given free: it is data from here on -/
theorem w_rel {ts : TS} (hi : Γ[i]? = some (Sl.ol false ds)) (h : Ws c (Γ.set i (.da (.lst ds))) n ts N) : Ws c Γ n ts N := by
  intro ρ av o σ H S D L
  obtain ⟨h1, h2, h3, h4, h0, vs, h5, h6⟩ := S.own i false ds hi
  have h3' : Fr ρ.H0 (o i) := h3.1
  have hm : ¬ ρ.mt (o i) := h3.2
  have hl : i < Γ.length := (List.getElem?_eq_some_iff.mp hi).1
  have less : ∀ p, (av p ∧ p ≠ o i) → av p := fun p z => z.1
  have old : ∀ (j : Nat) (s : Sl), (Γ.set i (.da (.lst ds)))[j]? = some s → j ≠ i → Γ[j]? = some s := fun j s q hj => by
    rwa [List.getElem?_set_ne (Ne.symm hj)] at q
  have new : ∀ (s : Sl), (Γ.set i (.da (.lst ds)))[i]? = some s → s = .da (.lst ds) := fun s q => by
    rw [List.getElem?_set_self hl] at q
    cases q
    rfl
  refine h ρ (fun p => av p ∧ p ≠ o i) o σ H ?_ D L
  exact {
    len := by rw [List.length_set]; exact S.len
    gl := by rw [List.length_set]; exact S.gl
    pa := ⟨S.pa, h4.1.symm⟩
    pl := fun z => S.pl z.1
    pm := S.pm
    sub := fun p z => ⟨S.sub p z, fun e => by
      obtain ⟨w, q, t⟩ := S.live0 p z
      rw [e] at q
      rw [h3' w q] at t
      cases t⟩
    rsub := fun p z => ⟨S.rsub p z, fun e => h0 (e ▸ z)⟩
    msub := fun p z => ⟨S.msub p z, fun e => hm (e ▸ z)⟩
    asub := fun p z => S.asub p z.1
    live := fun p z => S.live p z.1
    live0 := S.live0
    pen := S.pen
    kp := S.kp
    ex := S.ex
    dat := fun j e q => by
      by_cases hj : j = i
      · subst hj
        cases new _ q
        exact ⟨_, h1, .lst (fun z => z.2 rfl) h5 (h6.less less)⟩
      · obtain ⟨v, q1, q2⟩ := S.dat j e (old j _ q hj)
        exact ⟨v, q1, q2.less less⟩
    own := fun j b' es q => by
      by_cases hj : j = i
      · subst hj
        cases new _ q
      · obtain ⟨q1, q2, q3, q4, q0, ws, q5, q6⟩ := S.own j b' es (old j _ q hj)
        exact ⟨q1, ⟨q2, fun z => hj (S.inj j i b' false es ds (old j _ q hj) hi z)⟩, q3, q4, q0, ws, q5, q6.less less⟩
    inj := fun j l b1 b2 es fs q r e => by
      by_cases hj : j = i
      · subst hj
        cases new _ q
      · by_cases hl2 : l = i
        · subst hl2
          cases new _ r
        · exact S.inj j l b1 b2 es fs (old j _ q hj) (old l _ r hl2) e }
/-- return found -/
theorem w_retOwn (hi : Γ[i]? = some (Sl.ol b ds)) (h : N.rt (.lst ds) n) : Ws c Γ n (tRet (tVar i)) N := by
  intro ρ av o σ H S D L
  obtain ⟨h1, h2, h3, h4, h0, vs, h5, h6⟩ := S.own i b ds hi
  refine ⟨.ref (o i), h1, ?_⟩
  refine L.rt (fun p => av p ∧ p ≠ o i) (.ref (o i)) H (.lst ds) n (fun p z => ⟨S.rsub p z, fun e => h0 (e ▸ z)⟩) S.kp S.pen ?_ h
  exact .lst (fun z => z.2 rfl) h5 (h6.less fun p z => z.1)
end
end Pb
namespace Pb
open PySem PySem.Spec PyProof.Rows L2

/-! ### truth -/
def tTr (K : PySem.W.Frag) (ta : TE) : TT := fun σ H Q => ta σ H fun x H' => ∃ k, TruV K x H' k ∧ Q k H'
theorem pt_tr {X : Cx} {a : Expr} {ta : TE} (ha : PE X a ta) (he : ∀ whole, isTrue a X.env whole = (do let v ← whole; standAt a.pos; holding [v] (truthy v)) := by intro _; rfl) : PT X a (tTr X.K ta) := pt_truth ha he
def truD : Dt → Option Bool
  | .non => some false
  | .bl b => some b
  | .int i => some (i != 0)
  | .lst ds => some (!ds.isEmpty)
  | .tup ds => some (!ds.isEmpty)
  | .dic ks _ => some (!ks.isEmpty)
  | .str z => if z.length ≤ 16777216 then some ((z.length : Int) != 0) else none
  | _ => none
theorem DaAll.isEmpty {c : Wc} {av : Addr → Prop} {H : Hp} {vs : List V} {ds : List Dt} (h : DaAll c av H vs ds) : vs.isEmpty = ds.isEmpty := by cases h <;> rfl
theorem truD_ok {c : Wc} {av : Addr → Prop} {H : Hp} {v : V} {d : Dt} {b : Bool} (h : Da c av H v d) (e : truD d = some b) : TruV c.K v H b := by
  cases h with
  | non => cases e; rfl
  | bl b => cases e; rfl
  | int i => cases e; rfl
  | str z =>
    have e' : (if z.length ≤ 16777216 then some ((z.length : Int) != 0) else none) = some b := e
    by_cases hz : z.length ≤ 16777216
    · rw [if_pos hz] at e'
      exact ⟨by rw [sizeLine_eq]; exact hz, (Option.some.inj e').symm⟩
    · rw [if_neg hz] at e'; cases e'
  | lst h1 h2 h3 => cases e; exact .inl ⟨_, SqL.of h2, by rw [h3.isEmpty]⟩
  | tup h2 h3 => cases e; exact .inr (.inl ⟨_, h2.sq, by rw [h3.isEmpty]⟩)
  | @dic p kvs ks ds h1 h2 h3 h4 =>
    have e' : some (!ks.isEmpty) = some b := e
    cases e'
    refine .inr (.inr ⟨_, h2, ?_⟩)
    rw [← h3]
    cases kvs <;> rfl
  | obj => cases e
  | err _ _ _ _ => cases e
  | pen => cases e
section
variable {c : Fc} {Γ : List Sl} {n : Nat} {k : Kd} {kt : Bool → Nat → Prop} {ta tb te : TE}
theorem wt_tr (h : We c Γ n te fun d m => ∃ b, truD d = some b ∧ kt b m) : Wt c Γ n (tTr c.K te) kt := by
  intro ρ av o σ H S Q hQ
  refine h ρ av o σ H S _ fun x H1 d1 n1 S1 x1 h1 k1 => ?_
  obtain ⟨b, e, k1⟩ := k1
  exact ⟨b, truD_ok h1 e, hQ b H1 n1 S1 x1 k1⟩
theorem w_andT (h : We c Γ n ta fun d m => ∃ b, truD d = some b ∧ if b = true then We c Γ m tb k else k d m) : We c Γ n (tAndT c.K ta tb) k := by
  intro ρ av o σ H S Q hQ
  refine h ρ av o σ H S _ fun x H1 d1 n1 S1 x1 h1 k1 => ?_
  obtain ⟨b, e, k1⟩ := k1
  refine ⟨b, truD_ok h1 e, ?_⟩
  cases b with
  | true => exact k1 ρ av o σ H1 S1 Q fun v H2 d n2 S2 x2 h2 k2 => hQ v H2 d n2 S2 (x1.trans x2) h2 k2
  | false => exact hQ _ H1 _ n1 S1 x1 h1 k1
theorem w_orT (h : We c Γ n ta fun d m => ∃ b, truD d = some b ∧ if b = true then k d m else We c Γ m tb k) : We c Γ n (tOrT c.K ta tb) k := by
  intro ρ av o σ H S Q hQ
  refine h ρ av o σ H S _ fun x H1 d1 n1 S1 x1 h1 k1 => ?_
  obtain ⟨b, e, k1⟩ := k1
  refine ⟨b, truD_ok h1 e, ?_⟩
  cases b with
  | false => exact k1 ρ av o σ H1 S1 Q fun v H2 d n2 S2 x2 h2 k2 => hQ v H2 d n2 S2 (x1.trans x2) h2 k2
  | true => exact hQ _ H1 _ n1 S1 x1 h1 k1
theorem w_notT (h : We c Γ n ta fun d m => ∃ b, truD d = some b ∧ k (.bl (!b)) m) : We c Γ n (tNotT c.K ta) k := by
  intro ρ av o σ H S Q hQ
  refine h ρ av o σ H S _ fun x H1 d1 n1 S1 x1 h1 k1 => ?_
  obtain ⟨b, e, k1⟩ := k1
  exact ⟨b, truD_ok h1 e, hQ _ H1 _ n1 S1 x1 (.bl _) k1⟩
/-- a call with keywords, all behind the written ones -/
theorem w_ck {g : {α : Type} → List α → List α → List α} {a b : Nat} {r : List V → Hp → VK → Prop} {t tk : TA} (hg : ∀ {av H vs ws ds es}, DaAll c.toWc av H vs ds → DaAll c.toWc av H ws es → DaAll c.toWc av H (g vs ws) (g ds es))
    (h : Wa c Γ n t fun ds n1 => Wa c Γ n1 tk fun es n2 => (ds.length = a ∧ es.length = b) ∧ RCD c r (g ds es) n2 k) : We c Γ n (tCK g a b r t tk) k := by
  intro ρ av o σ H S Q hQ
  refine h ρ av o σ H S _ fun vs H1 ds n1 S1 x1 h1 k1 => ?_
  refine k1 ρ av o σ H1 S1 _ fun ws H2 es n2 S2 x2 h2 k2 => ?_
  refine ⟨⟨h1.length.trans k2.1.1, h2.length.trans k2.1.2⟩, ?_⟩
  refine k2.2 ρ av H2 _ S2.live ⟨S2.pa, S2.pl⟩ S2.pm S2.rsub S2.kp S2.pen S2.ex (hg (h1.keep (x2.kp S.pa)) h2) Q fun z H3 d n3 x3 p3 h3 k3 => ?_
  exact hQ z H3 d n3 (S2.stp x3 p3) ((x1.trans x2).trans x3) h3 k3
theorem w_ckA {a b : Nat} {r : List V → Hp → VK → Prop} {t tk : TA} (h : Wa c Γ n t fun ds n1 => Wa c Γ n1 tk fun es n2 => (ds.length = a ∧ es.length = b) ∧ RCD c r (ds ++ es) n2 k) : We c Γ n (tCK gApp a b r t tk) k :=
  w_ck (fun h1 h2 => h1.append h2) h
theorem r_neg {i : Int} {k : Dt → Prop} (h : k (.int (-i))) : R1D c (rU fun i => .int (-i)) (.int i) k := by
  intro av H x lv pa a Q q
  cases a
  exact ⟨i, rfl, q _ H _ (Same.refl H) (.int _) h⟩
/-- {} -/
theorem w_dnew (h : k (.dic [] []) n) : We c Γ n tDNewK k := by
  intro ρ av o σ H S Q hQ p hp
  exact hQ _ _ _ n (S.same (same_new hp)) (Stp.same (same_new hp)) (.dic (S.live.new hp) upd_same rfl .nil) h
end
end Pb
namespace Pb
open PySem PySem.Spec PyProof.Rows L2

/-! ### the law's def and the end of a row -/
section
variable {P : Program} {w : World} {K : PySem.W.Frag} {mg mb : Str → Option Value} {CX : CXT} {k : Nat} {fa a : Addr} {fd : FuncData} {x : Str} {sp : Sp} {s1 : Shared} {vs : List Value} {ns : List Int}
/-- what the row wants of the law's call -/
def Good (s1 : Shared) (r : Result) (s' : Shared) : Prop := r = .ok (.ret (.bool true)) ∧ OldK s1.heap s'.heap ∧ s'.os = s1.os ∧ AllBare s'.gens
theorem law_from {H : Hp} (F : ∀ base : Heap, K.In base → base.Ns mainGlobals mg → FnG true P w K mg base CX k fa fd [x] sp) (hbind : ∀ (s : Shared) (u : Value), BindsTo s fd ⟨[u], []⟩ [(x, u)])
    (inK : K.In s1.heap) (nsG : s1.heap.Ns mainGlobals mg) (nsB : s1.heap.Ns builtinsNs mb) (bb : ∀ x : Str, x ≠ "__name__" → mb x = bootBuiltins x) (lim : s1.heap.NoLimit) (g0 : s1.gens = #[])
    (hr : RoomG true k callerA) (only : Only H) (ok : HOk P w H s1.heap) (scr : ∀ b, H b ≠ none → b = a) (scrK : H a ≠ none → K.lookup a = none)
    (lst : s1.heap.get? a = some { cls := .type "list", data := .seq vs.toArray }) (pr : sp [.ref a] H (fun v _ => v = .bl true) fun _ _ _ => False) (noX : ∀ H e s', CX [] H s1 (fun _ _ _ => False) e s' → False) :
    codeAny (model P w) callerA (.call (.ref fa) ⟨[.ref a], []⟩) (Good s1) s1 := by
  have dictFree : ∀ (b : Addr) (ob : Obj) (es : Array DictEntry) (ep : Nat), s1.heap.get? b = some ob → ob.data = .dict es ep → H b = none := by
    intro b ob es ep e d
    by_cases q : H b = none
    · exact q
    · have eb := scr b q
      subst eb
      rw [lst] at e
      cases e
      have d' : Data.seq vs.toArray _ = Data.dict es ep := d
      cases d'
  have ns2 : ∀ (b : Addr) (m : Str → Option Value), s1.heap.Ns b m → (hidT s1.heap H).Ns b m := by
    rintro b m ⟨ob, es, ep, e, d, r⟩
    exact ⟨ob, es, ep, hidT_get e (dictFree b ob es ep e d), d, r⟩
  have inB : K.In (hidT s1.heap H) := by
    intro b ob e
    refine hidT_get (inK b ob e) ?_
    by_cases q : H b = none
    · exact q
    · have eb := scr b q
      subst eb
      rw [scrK q] at e
      cases e
  obtain ⟨mc, l1, l2⟩ := lim
  have md : Mod K mg (hidT s1.heap H) := ⟨inB, ns2 _ _ nsG, ⟨mb, ns2 _ _ nsB, bb⟩, mc, ns2 _ _ l1, l2⟩
  have ev : Env0 P w K mg (hidT s1.heap H) callerA [] s1 H := {
    frames := rfl
    mod := md
    bs := fun b ob e => of_hidT e
    bsz := Nat.le_of_eq (hidT_size _ _)
    funs := trivial
    frf := fun b hb => by
      have z : b ∈ ([] : List Addr) := hb
      simp at z
    hok := ok
    bare := .of_eq g0 }
  have run := (F _ inB (ns2 _ _ nsG)).run callerA [] s1 H ⟨[.ref a], []⟩ [.ref a] [.ref a] _ _ hr ev (hbind s1 (.ref a)) (.cons rfl .nil) pr
  refine codeAny_mono run ?_
  intro r s' h
  cases r with
  | error e => exact (noX H e s' h).elim
  | ok fl =>
    cases fl with
    | ret u =>
      obtain ⟨v, H', eo, br, un, ok', rel, q⟩ := h
      have q1 : v = .bl true := q
      subst q1
      have q2 : u = Value.bool true := rel
      subst q2
      refine ⟨rfl, OldK.of_keep ?_, eo, br⟩
      intro b ob e
      rcases only b with z | ⟨o2, xs, z⟩
      · refine un.keep b ob e z (fun y => ?_) (by simp)
        have y' : b ∈ ([] : List Addr) := y
        simp at y'
      · obtain ⟨e1, _⟩ := ok b _ z
        obtain ⟨e2, _⟩ := ok' b _ (un.frzs b o2 _ z)
        rw [e] at e1
        cases e1
        exact e2
    | next => exact h.elim
    | brk => exact h.elim
    | cont => exact h.elim
theorem law_go (F : ∀ base : Heap, K.In base → base.Ns mainGlobals mg → FnG true P w K mg base CX k fa fd [x] sp) (hbind : ∀ (s : Shared) (u : Value), BindsTo s fd ⟨[u], []⟩ [(x, u)])
    (inK : K.In s1.heap) (nsG : s1.heap.Ns mainGlobals mg) (nsB : s1.heap.Ns builtinsNs mb) (bb : ∀ x : Str, x ≠ "__name__" → mb x = bootBuiltins x) (lim : s1.heap.NoLimit) (g0 : s1.gens = #[])
    (hr : RoomG true k callerA) (lst : s1.heap.get? a = some { cls := .type "list", data := .seq vs.toArray }) (its : IntsAre vs ns) (len : ns.length ≤ sizeLine)
    (pr : ∀ H : Hp, Only H → SqL K H a (ns.map V.int) → sp [.ref a] H (fun v _ => v = .bl true) fun _ _ _ => False) (noX : ∀ H e s', CX [] H s1 (fun _ _ _ => False) e s' → False) :
    codeAny (model P w) callerA (.call (.ref fa) ⟨[.ref a], []⟩) (Good s1) s1 := by
  have rv := vals_ints its
  cases hk : K.lookup a with
  | some ob =>
    have e := inK a ob hk
    rw [lst] at e
    cases e
    have on : Only fun _ => none := fun _ => .inl rfl
    refine law_from (H := fun _ => none) F hbind inK nsG nsB bb lim g0 hr on ?_ (fun b z => absurd rfl z) (fun z => absurd rfl z) lst (pr _ on ?_) noX
    · intro b u z
      have z' : (none : Option HO) = some u := z
      cases z'
    · right
      refine ⟨_, vs.toArray, _, hk, rfl, rfl, rfl, ?_, ?_⟩
      · rw [List.size_toArray, its.length]
        exact len
      · simpa using rv
  | none =>
    let O : HO := .frz { cls := .type "list", data := .seq vs.toArray } (.lst (ns.map V.int))
    have at_ : (fun b => if b = a then some O else none : Hp) a = some O := if_pos rfl
    have off : ∀ b, b ≠ a → (fun b => if b = a then some O else none : Hp) b = none := fun b hb => if_neg hb
    have on : Only (fun b => if b = a then some O else none) := fun b => by
      by_cases hb : b = a
      · subst hb
        exact .inr ⟨_, _, at_⟩
      · exact .inl (off b hb)
    refine law_from (H := fun b => if b = a then some O else none) F hbind inK nsG nsB bb lim g0 hr on ?_ ?_ (fun _ => hk) lst (pr _ on (.inl (.inr ⟨_, at_⟩))) noX
    · intro b u z
      by_cases hb : b = a
      · subst hb
        have z' := at_.symm.trans z
        cases z'
        exact ⟨lst, by rw [List.length_map]; exact len, vs, _, rv, lst⟩
      · have z' := (off b hb).symm.trans z
        cases z'
    · intro b z
      by_cases hb : b = a
      · exact hb
      · exact absurd (off b hb) z
end
theorem walkG {l : PySem.W.OpenLaw} {n k : Nat} {q : Program} {loose : List Str} {XP : (Str → Option Value) → Heap → Prop} {YP : World → Heap → Prop} {d : DefRec} {CX : CXT} {x : Str}
    (hn : l.most = some n) (hn2 : n ≤ sizeLine) (hdf : d.params.defaults = []) (hr : RoomG true k callerA)
    (F : ∀ (w : World) (mg : Str → Option Value) (fa : Addr) (h : Heap), YP w h → h.Ns mainGlobals mg → mg d.name = some (.ref fa) →
      ∃ (K : PySem.W.Frag) (fd : FuncData) (sp : Sp), K.In h ∧ (∀ (s : Shared) (u : Value), BindsTo s fd ⟨[u], []⟩ [(x, u)]) ∧
        (∀ (H : Hp) (a : Addr) (ns : List Int), ns.length ≤ n → SqL K H a (ns.map V.int) → sp [.ref a] H (fun v _ => v = .bl true) fun _ _ _ => False) ∧
        ∀ base : Heap, K.In base → base.Ns mainGlobals mg → FnG true l.prog w K mg base CX k fa fd [x] sp)
    (noX : ∀ (H : Hp) (s : Shared) (e : Value) (s' : Shared), CX [] H s (fun _ _ _ => False) e s' → False) :
    PySem.W.WalkO q loose XP YP l.row.toRowW d [] (fun f vs => PySem.call f vs) := by
  refine Att.attach_call hn hdf ?_
  intro w s0 s1 mg mb fa o pm cd doc a vs ns G Y ho hd hcd hmg hobj hints hlen hg
  obtain ⟨K, fd, sp, KX, hb, hsp, hF⟩ := F w mg fa _ Y G.T.g hmg
  exact law_go hF hb KX G.T.g G.T.b G.T.builtins G.T.nolimit hg hr hobj hints (Nat.le_trans hlen hn2) (fun H _ hS => hsp H a ns hlen hS) fun H e s' => noX H s1 e s'

/-! ### the law's body: the pen first -/
def spPen (K : PySem.W.Frag) (T : List (Addr × Str)) : Sp := fun vs H Q _ => ∃ (s : Addr) (ns : List Int), vs = [.ref s] ∧ SqL K H s (ns.map V.int) ∧ ns.length ≤ 63 ∧ LamX.Tabs T H ∧
  ∀ a l ms H', Same H H' → H a = none → H l = none → a ≠ l → Pen a l ms T penLine H' → Q (.ref a) H'
def spLaw (K : PySem.W.Frag) (T : List (Addr × Str)) : Sp := fun vs H Q _ => ∃ (s : Addr) (ns : List Int), vs = [.ref s] ∧ SqL K H s (ns.map V.int) ∧ ns.length ≤ 63 ∧ LamX.Tabs T H ∧ ∀ H', Q (.bl true) H'
theorem tabs_nil {H : Hp} : LamX.Tabs [] H := fun p hp => by cases hp
/-- the slots behind the first statement: the pen in slot 1 -/
def gam1 (m : Nat) : List Sl := .un :: .da .pen :: List.replicate m .un
theorem law_body {K : PySem.W.Frag} {mg : Str → Option Value} {T : List (Addr × Str)} {N : List Str} {m : Nat} (hN : N.length = m + 2) {tr : TS} {n : Nat} (hn : n ≤ penLine)
    (hw : ∀ c : Fc, c.K = K → c.mg = mg → c.T = T → c.er = none → c.E = E0 → Ws c (gam1 m) n tr { nx := fun _ _ => False, rt := fun d _ => d = .bl true }) {vs : List V} {H : Hp} {Q : VK} {E : XK} (h : spLaw K T vs H Q E) :
    tSeq (tAsg (tCB (fun vs H Q => spPen K T vs H Q E0) (tCons (tVar 0) tNil)) (gName 1)) tr { nx := fun _ H' => Q .non H', rt := Q } (L2.start N vs) H := by
  obtain ⟨s, ns, rfl, hs, hl, hT, hQ⟩ := h
  have e0 : (L2.start N [.ref s]) = some (.ref s) :: none :: List.replicate m none := by
    unfold L2.start
    rw [hN]
    show some (V.ref s) :: List.replicate (m + 2 - 1) none = _
    rw [show m + 2 - 1 = m + 1 by omega, List.replicate_succ]
  rw [e0]
  refine ⟨.ref s, rfl, s, ns, rfl, hs, hl, hT, fun a l ms H' sm ha hl' nal pn => ?_⟩
  refine hw ⟨⟨K, mg, a, l, ms, T, none⟩, E0, fun _ _ _ => False⟩ rfl rfl rfl rfl rfl ⟨H', fun p => p = a, fun p => p = a, fun _ => 0, fun p => p = a, m + 2⟩ (fun p => p = a) (fun _ => 0) _ H' ?_ _ ?_
  · have pl := (pn.less hn)
    have lv : Live (fun p => p = a) H' := by
      obtain ⟨i, r, h1, h2, _⟩ := pn
      intro p z
      rw [z]
      exact ⟨_, h1, rfl⟩
    exact {
      len := by simp [gam1]
      gl := by simp [gam1]
      pa := rfl
      pl := fun z => nal z.symm
      pm := rfl
      sub := fun p z => z
      rsub := fun p z => z
      msub := fun p z => z
      asub := fun p z => .inl z
      live := lv
      live0 := lv
      pen := pl
      kp := Kp.refl _ _
      ex := fun _ _ _ _ _ _ _ _ _ _ _ _ _ _ z => z
      dat := fun i d q => by
        match i, q with
        | 0, q => cases q
        | 1, q =>
          cases q
          exact ⟨_, rfl, .pen⟩
        | i + 2, q =>
          exfalso
          have q' : (List.replicate m Sl.un)[i]? = some (Sl.da d) := q
          rw [List.getElem?_replicate] at q'
          split at q' <;> cases q'
      own := fun i b d q => by
        exfalso
        match i, q with
        | 0, q => cases q
        | 1, q => cases q
        | i + 2, q =>
          have q' : (List.replicate m Sl.un)[i]? = some (Sl.ol b d) := q
          rw [List.getElem?_replicate] at q'
          split at q' <;> cases q'
      inj := fun i j b b' d d' q => by
        exfalso
        match i, q with
        | 0, q => cases q
        | 1, q => cases q
        | i + 2, q =>
          have q' : (List.replicate m Sl.un)[i]? = some (Sl.ol b d) := q
          rw [List.getElem?_replicate] at q'
          split at q' <;> cases q' }
  · refine ⟨fun _ _ _ _ _ _ _ z => z.elim, fun av' v H2 d n' _ _ _ da q => ?_, fun _ _ _ _ _ _ _ z => z.elim, fun _ _ _ _ _ _ _ z => z.elim⟩
    have q' : d = .bl true := q
    subst q'
    cases da
    exact hQ H2
end Pb
namespace Pb
open PySem PySem.Spec PyProof.Rows L2

/-! ### the pen's places -/
section
variable {c : Fc} {n : Nat} {k : Dt → Prop} {Γ : List Sl} {N : Nd} {te : TE}
theorem r_ixP2 (h : ∀ r : Int, k (.int r)) : R2D c n (rIx c.K) .pen (.int 2) k := by
  intro av H x y lv pa a b Q q
  cases a; cases b
  obtain ⟨_, _, i, r, h1, h2, _⟩ := pa
  exact .inl ⟨_, _, 2, .int r, rfl, rfl, SqL.of h1, rfl, q _ H _ (Same.refl H) (.int r) (h r)⟩
theorem r_ixP1 (h : ∀ i : Int, 0 ≤ i → i + n ≤ 4194304 → k (.int i)) : R2D c n (rIx c.K) .pen (.int 1) k := by
  intro av H x y lv pa a b Q q
  cases a; cases b
  obtain ⟨_, _, i, r, h1, h2, _, _, h3, h4⟩ := pa
  exact .inl ⟨_, _, 1, .int i, rfl, rfl, SqL.of h1, rfl, q _ H _ (Same.refl H) (.int i) (h i h3 h4.1)⟩
theorem DaAll.ofInts {c : Wc} {av : Addr → Prop} {H : Hp} : ∀ (ys : List Int), DaAll c av H (ys.map V.int) (ys.map Dt.int)
  | [] => .nil
  | y :: ys => .cons (.int y) (DaAll.ofInts ys)
theorem r_ixP0 (h : c.ns.length ≤ 63 → k (.lst (c.ns.map Dt.int))) : R2D c n (rIx c.K) .pen (.int 0) k := by
  intro av H x y lv pa a b Q q
  cases a; cases b
  obtain ⟨_, nl, i, r, h1, h2, h5, h6, h3, h4⟩ := pa
  exact .inl ⟨_, _, 0, .ref c.l, rfl, rfl, SqL.of h1, rfl, q _ H _ (Same.refl H) (.lst nl h2 (DaAll.ofInts c.ns)) (h h6)⟩
/-- the pen's own list is turned -/
theorem SS.penned {ρ : Rt} {av : Addr → Prop} {o : Nat → Addr} {σ : L2.St} {H : Hp} {n' : Nat} (S : SS c ρ av o Γ n σ H) {u : HO} (p : Pen c.a c.l c.ns c.T n' (upd H c.a u)) : SS c ρ av o Γ n' σ (upd H c.a u) :=
  S.stp (fun b w hb e _ => by rw [upd_ne hb]; exact e) p
theorem w_setP2 {j : Nat} (hj : Γ[j]? = some (Sl.da .pen)) (h : We c Γ n te fun d m => ∃ r : Int, d = .int r ∧ N.nx Γ m) : Ws c Γ n (tAsg te (gSub (tVar j) (tC (.int 2)) rSetL)) N := by
  intro ρ av o σ H S D L
  refine h ρ av o σ H S _ fun v H' d m S' x h' kk => ?_
  obtain ⟨r, rfl, kk⟩ := kk
  cases h'
  obtain ⟨v, e1, e2⟩ := S'.dat j _ hj
  cases e2
  obtain ⟨i, r0, h1, h2, h3, h4, h5, h6⟩ := S'.pen
  refine ⟨_, e1, c.a, _, 2, 2, rfl, rfl, h1, rfl, ?_⟩
  refine L.nx av o Γ m σ _ (S'.penned (n' := m) ⟨i, r, ?_, ?_, h3, h4, h5, h6.1, Tabs.upd h6.2 h1 rfl rfl⟩) kk
  · exact upd_same
  · rw [upd_ne h3]; exact h2
theorem w_setP1 {j : Nat} (hj : Γ[j]? = some (Sl.da .pen)) (h : We c Γ n te fun d m => ∃ (i : Int) (m' : Nat), d = .int i ∧ 0 ≤ i ∧ i + m' ≤ 4194304 ∧ N.nx Γ m') : Ws c Γ n (tAsg te (gSub (tVar j) (tC (.int 1)) rSetL)) N := by
  intro ρ av o σ H S D L
  refine h ρ av o σ H S _ fun v H' d m S' x h' kk => ?_
  obtain ⟨i, m', rfl, hi, hm, kk⟩ := kk
  cases h'
  obtain ⟨v, e1, e2⟩ := S'.dat j _ hj
  cases e2
  obtain ⟨i0, r0, h1, h2, h3, h4, h5, h6⟩ := S'.pen
  refine ⟨_, e1, c.a, _, 1, 1, rfl, rfl, h1, rfl, ?_⟩
  refine L.nx av o Γ m' σ _ (S'.penned (n' := m') ⟨i, r0, ?_, ?_, h3, h4, hi, hm, Tabs.upd h6.2 h1 rfl rfl⟩) kk
  · exact upd_same
  · rw [upd_ne h3]; exact h2
end
/-! ### the pen is made -/
def t_pen (K : PySem.W.Frag) : TS := tRet (tLst (tCons (tCB (rList K) (tCons (tSl (rSl K) (tVar 0) tNoPart (tPart (tC (.int 63)))) tNil)) (tCons (tC (.int 0)) (tCons (tC (.int 0)) tNil))))
theorem cut_ints (ns : List Int) (lo hi : Option Int) : cutV (ns.map V.int) lo hi = (cutG ns lo hi).map V.int := by
  unfold cutV cutG
  rw [List.length_map, List.map_take, List.map_drop]
theorem pen_made {K : PySem.W.Frag} {T : List (Addr × Str)} {vs : List V} {H : Hp} {Q : VK} {E : XK} (h : spPen K T vs H Q E) : t_pen K { nx := fun _ H' => Q .non H', rt := Q } (L2.start ["_law_script"] vs) H := by
  obtain ⟨s, ns, rfl, hs, hl, hT, hQ⟩ := h
  refine ⟨.ref s, rfl, 63, rfl, .inl ⟨s, _, rfl, hs, fun p hp => ?_⟩⟩
  refine ⟨p, _, rfl, .inl (SqL.of upd_same), fun l hl2 => ?_⟩
  refine ⟨szl rfl, fun a ha => ?_⟩
  have hlp : l ≠ p := fun z => by rw [z, upd_same] at hl2; cases hl2
  have hal : a ≠ l := fun z => by rw [z, upd_same] at ha; cases ha
  have e1 : H l = none := by rwa [upd_ne hlp] at hl2
  have e2 : H a = none := by
    rw [upd_ne hal] at ha
    have hap : a ≠ p := fun z => by rw [z, upd_same] at ha; cases ha
    rwa [upd_ne hap] at ha
  have sm : ∀ (u1 u2 u3 : HO), Same H (upd (upd (upd H p u1) l u2) a u3) := fun u1 u2 u3 b o e => by
    rw [upd_ne (ne_of_none e e2), upd_ne (ne_of_none e e1), upd_ne (ne_of_none e hp)]
    exact e
  refine hQ a l (cutG ns none (some 63)) _ (sm _ _ _) e2 e1 hal ?_
  refine ⟨0, 0, upd_same, ?_, hal.symm, ?_, Int.le_refl _, by decide, hT.ext (sm _ _ _)⟩
  · rw [upd_ne hal.symm, upd_same, cut_ints]
  · unfold cutG
    rw [List.length_take, List.length_drop]
    omega
/-- what a draw promises -/
def S_draw : Sp1 where
  cost := 1
  pre := fun ds => ∃ m : Int, ds = [.pen, .int m] ∧ 0 < m ∧ m < 1073741824
  post := fun ds d => ∃ m i : Int, ds = [.pen, .int m] ∧ d = .int i ∧ 0 ≤ i ∧ i < m
theorem draw_pre {m : Int} (h1 : 0 < m) (h2 : m < 1073741824) : S_draw.pre [.pen, .int m] := ⟨m, rfl, h1, h2⟩
theorem draw_post {m : Int} {d : Dt} (h : S_draw.post [.pen, .int m] d) : ∃ i : Int, d = .int i ∧ 0 ≤ i ∧ i < m := by
  obtain ⟨m', i, e, ed, h1, h2⟩ := h
  cases e
  exact ⟨i, ed, h1, h2⟩
end Pb
namespace Pb
open PySem PySem.Spec PyProof.Rows L2

/-! ### texts -/
def rJoin (K : PySem.W.Frag) : V → List V → Hp → VK → Prop := fun x xs H Q => ∃ a p, ∃ ys : List Str, x = .str a ∧ xs = [.ref p] ∧ (SqL K H p (ys.map V.str) ∨ SqT K H p (ys.map V.str)) ∧ (ys.map (·.length)).sum + ys.length * a.length ≤ 16777216 ∧ Q (.str (Txt.join a ys)) H
def rSplit : V → List V → Hp → VK → Prop := fun x xs H Q => ∃ a b, x = .str a ∧ xs = [.str b] ∧ (b.length == 0) = false ∧ a.length + 2 ≤ sizeLine ∧ rNewStrs (Txt.split a b) H Q
section
variable {X : Cx} {c : Fc} {k : Kd} {Γ : List Sl} {n : Nat} {to te : TE}
theorem w_joinL (h : We c Γ n to fun d n1 => ∃ z, d = .str z ∧ We c Γ n1 te fun e n2 => ∃ ys : List Str, e = .lst (ys.map Dt.str) ∧ (ys.map (·.length)).sum + ys.length * z.length ≤ 16777216 ∧ k (.str (Txt.join z ys)) n2) : We c Γ n (tM1 (rJoin c.K) to te) k := w_join rfl h
theorem w_splitL (h : We c Γ n to fun d n1 => ∃ z, d = .str z ∧ We c Γ n1 te fun e n2 => ∃ b, e = .str b ∧ (b.length == 0) = false ∧ szOk (z.length + 2) = true ∧ k (.lst ((Txt.split z b).map Dt.str)) n2) : We c Γ n (tM1 rSplit to te) k := w_split rfl h
end
/-! ### a dict written out -/
theorem merge_app : ∀ (kvs acc : List (Key × V)), ((acc ++ kvs).map (·.1)).Nodup → mergeK acc kvs = acc ++ kvs
  | [], acc, _ => by rw [List.append_nil]; rfl
  | kv :: kvs, acc, h => by
    have e : putK acc kv.1 kv.2 = acc ++ [kv] := by
      unfold putK
      rw [if_neg]
      intro z
      rw [List.any_eq_true] at z
      obtain ⟨p, hp, z⟩ := z
      have z := of_decide_eq_true z
      rw [List.map_append, List.nodup_append] at h
      exact h.2.2 p.1 (List.mem_map_of_mem hp) kv.1 (by simp) z
    show mergeK (putK acc kv.1 kv.2) kvs = _
    rw [e, merge_app kvs (acc ++ [kv]) (by rw [List.append_assoc]; exact h), List.append_assoc]
    rfl
def Wp (c : Fc) (Γ : List Sl) (n : Nat) (trs : List (TE × TE)) (k : List Key → List Dt → Nat → Prop) : Prop := ∀ ρ av o σ H, SS c ρ av o Γ n σ H → ∀ Q : List (V × V) → Hp → Prop,
  (∀ (kvs : List (Key × V)) H' ks ds n', SS c ρ av o Γ n' σ H' → Stp c.a H H' → kvs.map (·.1) = ks → DaAll c.toWc av H' (kvs.map (·.2)) ds → k ks ds n' → Q (kvs.map fun kv => (kV kv.1, kv.2)) H') → tPairs trs σ H Q
def keyD : Dt → Option Key
  | .int i => some (.inl i)
  | .str x => some (.inr x)
  | _ => none
section
variable {c : Fc} {Γ : List Sl} {n : Nat} {k : Kd} {kp : List Key → List Dt → Nat → Prop} {tk tv : TE} {trs : List (TE × TE)}
theorem wp_nil (h : kp [] [] n) : Wp c Γ n [] kp := fun ρ av o σ H S Q q => q [] H [] [] n S (Stp.refl _ _) rfl .nil h
theorem wp_cons (h : We c Γ n tk fun d n1 => ∃ key, keyD d = some key ∧ We c Γ n1 tv fun e n2 => Wp c Γ n2 trs fun ks ds m => kp (key :: ks) (e :: ds) m) : Wp c Γ n ((tk, tv) :: trs) kp := by
  intro ρ av o σ H S Q q
  refine h ρ av o σ H S _ fun x H1 d n1 S1 x1 h1 k1 => ?_
  obtain ⟨key, hk, k1⟩ := k1
  refine k1 ρ av o σ H1 S1 _ fun y H2 e n2 S2 x2 h2 k2 => ?_
  refine k2 ρ av o σ H2 S2 _ fun kvs H3 ks ds m S3 x3 e3 h3 k3 => ?_
  have ex : x = kV key := by
    cases h1 <;> cases hk <;> rfl
  rw [ex]
  exact q ((key, y) :: kvs) H3 (key :: ks) (e :: ds) m S3 ((x1.trans x2).trans x3) (by rw [List.map_cons, e3]) (.cons (h2.keep (x3.kp S.pa)) h3) k3
theorem w_disp (h : Wp c Γ n trs fun ks ds m => ks.Nodup ∧ ks.length ≤ 15 ∧ k (.dic ks ds) m) : We c Γ n (tDisp trs) k := by
  intro ρ av o σ H S Q q p hp
  have np : ¬ av p := S.live.new hp
  obtain ⟨npa, npl⟩ := S.pen.ne hp
  refine h ρ _ o σ _ (S.apart hp (.dK [])) _ fun kvs H2 ks ds m S2 x2 ek hd kk => ?_
  have h2p : H2 p = some (.dK []) := x2 p _ npa upd_same rfl
  refine ⟨h2p, kvs, rfl, by rw [← ek, List.length_map] at kk; exact kk.2.1, ?_⟩
  rw [merge_app kvs [] (by rw [List.nil_append, ek]; exact kk.1), List.nil_append]
  have st : Stp c.a H (upd H2 p (.dK kvs)) := fun b u hb e t => by
    rw [upd_ne (ne_of_none e hp)]
    exact x2 b u hb (by rw [upd_ne (ne_of_none e hp)]; exact e) t
  have pn : Pen c.a c.l c.ns c.T m (upd H2 p (.dK kvs)) := S2.pen.upd npa npl h2p rfl rfl
  have kpp : Kp (fun q => av q ∨ q = p) H2 (upd H2 p (.dK kvs)) := fun b u hb e _ => by
    rw [upd_ne fun z => hb (.inr z)]
    exact e
  exact q _ _ (.dic ks ds) m (S.stp st pn) st (.dic np upd_same ek ((hd.keep kpp).less fun q z => .inl z)) kk.2.2
end
/-! ### branches, ends -/
theorem ite_t {b : Bool} {A B : Prop} (h : b = true) (a : A) : if b = true then A else B := by rw [if_pos h]; exact a
theorem ite_f {b : Bool} {A B : Prop} (h : b = false) (a : B) : if b = true then A else B := by rw [if_neg (by rw [h]; decide)]; exact a
theorem ite_b {b : Bool} {A B : Prop} (h : b = true → A) (h2 : b = false → B) : if b = true then A else B := by
  cases b
  · exact ite_f rfl (h2 rfl)
  · exact ite_t rfl (h rfl)
theorem ex_bl {x : Bool} {p : Bool → Prop} (h : p x) : ∃ b, Dt.bl x = .bl b ∧ p b := ⟨x, rfl, h⟩
theorem ex_int {x : Int} {p : Int → Prop} (h : p x) : ∃ b, Dt.int x = .int b ∧ p b := ⟨x, rfl, h⟩
theorem ex_str {x : Str} {p : Str → Prop} (h : p x) : ∃ b, Dt.str x = .str b ∧ p b := ⟨x, rfl, h⟩
theorem ex_tr {d : Dt} {x : Bool} {p : Bool → Prop} (e : truD d = some x) (h : p x) : ∃ b, truD d = some b ∧ p b := ⟨x, e, h⟩
theorem ex_tn {d : Dt} {x : Tn} {p : Tn → Prop} (e : d.tn = some x) (h : p x) : ∃ b, d.tn = some b ∧ p b := ⟨x, e, h⟩
theorem ex_sq {d : Dt} {x : List Dt} {p : List Dt → Prop} (e : seqD d = some x) (h : p x) : ∃ b, seqD d = some b ∧ p b := ⟨x, e, h⟩
theorem ex_key {d : Dt} {x : Key} {p : Key → Prop} (e : keyD d = some x) (h : p x) : ∃ b, keyD d = some b ∧ p b := ⟨x, e, h⟩
inductive Al (R : Dt → Dt → Prop) : List Dt → List Dt → Prop
  | nil : Al R [] []
  | cons {d e : Dt} {ds es : List Dt} : R d e → Al R ds es → Al R (d :: ds) (e :: es)
theorem Al.len {R : Dt → Dt → Prop} : ∀ {ds es : List Dt}, Al R ds es → es.length = ds.length
  | _, _, .nil => rfl
  | _, _, .cons _ t => by rw [List.length_cons, List.length_cons, t.len]
theorem Al.app {R : Dt → Dt → Prop} : ∀ {ds es fs gs : List Dt}, Al R ds es → Al R fs gs → Al R (ds ++ fs) (es ++ gs)
  | _, _, _, _, .nil, h => h
  | _, _, _, _, .cons h t, q => .cons h (t.app q)
theorem Al.all {R : Dt → Dt → Prop} {P : Dt → Prop} : ∀ {ds es : List Dt}, Al R ds es → (∀ d e, R d e → P e) → ∀ e ∈ es, P e
  | _, _, .nil, _, e, h => by cases h
  | _, _, .cons h t, q, e, z => by
    cases z with
    | head => exact q _ _ h
    | tail _ z => exact t.all q e z
/-! ### comprehensions and loops, by what a turn gives and what it draws -/
section
variable {c : Fc} {Γ : List Sl} {n : Nat} {k : Kd} {wi : TI} {g : TG} {tt : TT} {te : TE} {vs js : List Nat} {tb : TS} {N : Nd}
/-- element by element: R i d e; q draws a turn -/
theorem lc_rel (q : Nat) (R : Dt → Dt → Prop) {ds : List Dt} (hq : ds.length * q ≤ n) (hz : szOk ds.length = true)
    (turn : ∀ d ∈ ds, ∀ m, q ≤ m → Wg c (wipeG Γ vs) m js g d fun Γ2 m2 => We c Γ2 m2 te fun e m4 => R d e ∧ m ≤ m4 + q) {k : List Dt → Nat → Prop}
    (done : ∀ es m, Al R ds es → n ≤ m + ds.length * q → k es m) : LcAsk c Γ js vs g tYes te ds n k := by
  refine ⟨fun i es m => i ≤ ds.length ∧ Al R (ds.take i) es ∧ n ≤ m + i * q, ⟨Nat.zero_le _, .nil, by omega⟩, fun i es m d hd h => ?_, fun es m h => ?_⟩
  · obtain ⟨h1, h2, h3⟩ := h
    obtain ⟨hi, ed⟩ := List.getElem?_eq_some_iff.mp hd
    have hqm : q ≤ m := by
      have : (i + 1) * q ≤ ds.length * q := Nat.mul_le_mul_right q hi
      rw [Nat.add_mul, Nat.one_mul] at this
      omega
    intro ρ av o σ H v S da Q hQ
    refine turn d (ed ▸ List.getElem_mem hi) m hqm ρ av o σ H v S da Q fun Γ' σ' S' b kk => ?_
    refine hQ Γ' σ' S' b (wt_yes (ite_t rfl (kk.mono fun e m4 z => ⟨?_, hi, ?_, ?_⟩)))
    · have e1 : es.length = i := by
        have := h2.len
        rw [List.length_take, Nat.min_eq_left (Nat.le_of_lt hi)] at this
        exact this
      rw [e1]
      have := Nat.le_of_ble_eq_true hz
      exact Nat.ble_eq_true_of_le (show i + 1 ≤ 16777216 by omega)
    · rw [List.take_succ, hd]
      exact h2.app (.cons z.1 .nil)
    · rw [Nat.add_mul, Nat.one_mul]
      have := z.2
      omega
  · obtain ⟨h1, h2, h3⟩ := h
    rw [List.take_length] at h2
    exact done es m h2 h3
/-- by a function, without a draw -/
theorem lc_fun (f : Dt → Dt) {ds : List Dt} (hz : szOk ds.length = true)
    (turn : ∀ d ∈ ds, ∀ m, Wg c (wipeG Γ vs) m js g d fun Γ2 m2 => We c Γ2 m2 te fun e m4 => e = f d ∧ m ≤ m4) {k : List Dt → Nat → Prop}
    (done : ∀ m, n ≤ m → k (ds.map f) m) : LcAsk c Γ js vs g tYes te ds n k := by
  refine lc_rel 0 (fun d e => e = f d) (by omega) hz (fun d hd m _ => ?_) fun es m h hm => ?_
  · intro ρ av o σ H v S da Q hQ
    exact turn d hd m ρ av o σ H v S da Q fun Γ' σ' S' b kk => hQ Γ' σ' S' b (kk.mono fun e m4 z => ⟨z.1, by have := z.2; omega⟩)
  · have e : es = ds.map f := by
      clear hz turn done hm
      induction h with
      | nil => rfl
      | cons h t ih => rw [List.map_cons, ← ih, h]
    rw [e]
    exact done m (by omega)
/-- with a condition, without a draw -/
theorem lc_fil (p : Dt → Bool) (f : Dt → Dt) {ds : List Dt} (hz : szOk ds.length = true)
    (turn : ∀ d ∈ ds, ∀ m, Wg c (wipeG Γ vs) m js g d fun Γ2 m2 => Wt c Γ2 m2 tt fun b m3 => b = p d ∧ m ≤ m3 ∧ (b = true → We c Γ2 m3 te fun e m4 => e = f d ∧ m ≤ m4)) {k : List Dt → Nat → Prop}
    (done : ∀ m, n ≤ m → k ((ds.filter p).map f) m) : LcAsk c Γ js vs g tt te ds n k := by
  refine ⟨fun i es m => i ≤ ds.length ∧ es = ((ds.take i).filter p).map f ∧ n ≤ m, ⟨Nat.zero_le _, rfl, Nat.le_refl _⟩, fun i es m d hd h => ?_, fun es m h => ?_⟩
  · obtain ⟨h1, h2, h3⟩ := h
    obtain ⟨hi, ed⟩ := List.getElem?_eq_some_iff.mp hd
    intro ρ av o σ H v S da Q hQ
    refine turn d (ed ▸ List.getElem_mem hi) m ρ av o σ H v S da Q fun Γ' σ' S' b kk => ?_
    refine hQ Γ' σ' S' b fun ρ av o σ H S Q hQ => kk ρ av o σ H S Q fun b H' n' S' x z => hQ b H' n' S' x ?_
    obtain ⟨e1, e2, e3⟩ := z
    refine ite_b (fun hb => (e3 hb).mono fun e m4 z => ⟨?_, hi, ?_, by have := z.2; omega⟩) fun hb => ⟨hi, ?_, by omega⟩
    · rw [h2, List.length_map]
      have a := List.length_filter_le p (ds.take i)
      rw [List.length_take] at a
      have := Nat.le_of_ble_eq_true hz
      exact Nat.ble_eq_true_of_le (show _ + 1 ≤ 16777216 by omega)
    · rw [List.take_succ, hd, List.filter_append, List.map_append, h2, z.1]
      show _ = _ ++ List.map f (List.filter p [d])
      rw [List.filter_cons, if_pos (e1 ▸ hb)]
      rfl
    · rw [List.take_succ, hd, List.filter_append, List.map_append, h2]
      show _ = _ ++ List.map f (List.filter p [d])
      rw [List.filter_cons, if_neg (by rw [← e1, hb]; decide)]
      exact (List.append_nil _).symm
  · obtain ⟨h1, h2, h3⟩ := h
    rw [List.take_length] at h2
    rw [h2]
    exact done m h3
/-- a loop: J by the turn; q draws a turn -/
theorem for_by (q : Nat) (J : Nat → List Sl → Prop) {ds : List Dt} (hq : ds.length * q ≤ n) (h0 : J 0 (Γ.map outS))
    (turn : ∀ i Γ' m d, ds[i]? = some d → J i Γ' → q ≤ m → n ≤ m + i * q → Wg c Γ' m js g d fun Γ2 m2 => Ws c Γ2 m2 tb
      { nx := fun Γ3 m3 => J (i + 1) Γ3 ∧ m ≤ m3 + q, ct := fun Γ3 m3 => J (i + 1) Γ3 ∧ m ≤ m3 + q, rt := N.rt, bk := fun Γ3 m3 => N.nx (back Γ Γ3) m3 })
    (done : ∀ Γ' m, J ds.length Γ' → n ≤ m + ds.length * q → N.nx (back Γ Γ') m) :
    ∃ I : Nat → List Sl → Nat → Prop, I 0 (Γ.map outS) n ∧
      (∀ i Γ' m d, ds[i]? = some d → Γ'.length = Γ.length → I i Γ' m → Wg c Γ' m js g d fun Γ2 m2 => Ws c Γ2 m2 tb { nx := I (i + 1), ct := I (i + 1), rt := N.rt, bk := fun Γ3 m3 => N.nx (back Γ Γ3) m3 }) ∧
      (∀ Γ' m, Γ'.length = Γ.length → I ds.length Γ' m → N.nx (back Γ Γ') m) := by
  refine ⟨fun i Γ' m => J i Γ' ∧ n ≤ m + i * q, ⟨h0, by omega⟩, fun i Γ' m d hd _ h => ?_, fun Γ' m _ h => done Γ' m h.1 h.2⟩
  obtain ⟨h1, h2⟩ := h
  obtain ⟨hi, ed⟩ := List.getElem?_eq_some_iff.mp hd
  have hqm : q ≤ m := by
    have : (i + 1) * q ≤ ds.length * q := Nat.mul_le_mul_right q hi
    rw [Nat.add_mul, Nat.one_mul] at this
    omega
  intro ρ av o σ H v S da Q hQ
  refine turn i Γ' m d hd h1 hqm h2 ρ av o σ H v S da Q fun Γ2 σ' S' b kk => ?_
  refine hQ Γ2 σ' S' b fun ρ av o σ H S D L => kk ρ av o σ H S D ⟨fun av o Γ n' σ H S z => L.nx av o Γ n' σ H S ⟨z.1, ?_⟩, L.rt, L.bk, fun av o Γ n' σ H S z => L.ct av o Γ n' σ H S ⟨z.1, ?_⟩⟩
  · rw [Nat.add_mul, Nat.one_mul]; have := z.2; omega
  · rw [Nat.add_mul, Nat.one_mul]; have := z.2; omega
end
/-- a draw -/
theorem c_draw {c : Fc} {n : Nat} {k : Kd} {E : XK} {m : Int} (h1 : 0 < m) (h2 : m < 1073741824) (h3 : 1 ≤ n) (h : ∀ i : Int, 0 ≤ i → i < m → k (.int i) (n - 1)) : RCD c (fun vs H Q => spD c.K c.mg c.T S_draw vs H Q E) [.pen, .int m] n k :=
  w_call0 rfl rfl rfl h3 (draw_pre h1 h2) (fun d hd => by
    obtain ⟨i, rfl, a, b⟩ := draw_post hd
    exact h i a b) fun _ _ z => z
end Pb
namespace Pb
open PySem PySem.Spec PyProof.Rows L2

/-! ### promises by the number of values -/
def sp1 (cost : Nat) (pre : Dt → Prop) (post : Dt → Dt → Prop) : Sp1 where
  cost := cost
  pre := fun ds => ∃ a, ds = [a] ∧ pre a
  post := fun ds e => ∃ a, ds = [a] ∧ post a e
def sp2 (cost : Nat) (pre : Dt → Dt → Prop) (post : Dt → Dt → Dt → Prop) : Sp1 where
  cost := cost
  pre := fun ds => ∃ a b, ds = [a, b] ∧ pre a b
  post := fun ds e => ∃ a b, ds = [a, b] ∧ post a b e
def sp3 (cost : Nat) (pre : Dt → Dt → Dt → Prop) (post : Dt → Dt → Dt → Dt → Prop) : Sp1 where
  cost := cost
  pre := fun ds => ∃ a b x, ds = [a, b, x] ∧ pre a b x
  post := fun ds e => ∃ a b x, ds = [a, b, x] ∧ post a b x e
def sp4 (cost : Nat) (pre : Dt → Dt → Dt → Dt → Prop) (post : Dt → Dt → Dt → Dt → Dt → Prop) : Sp1 where
  cost := cost
  pre := fun ds => ∃ a b x y, ds = [a, b, x, y] ∧ pre a b x y
  post := fun ds e => ∃ a b x y, ds = [a, b, x, y] ∧ post a b x y e
/-- the end of a body -/
abbrev nd (n : Nat) (post : Dt → Prop) : Nd := { nx := fun _ n' => post .non ∧ n ≤ n', rt := fun e n' => post e ∧ n ≤ n' }
section
variable {c : Fc} {n cost : Nat} {k : Kd} {E : XK} {N : List Str} {t : TS}
theorem c_fn1 {pre : Dt → Prop} {post : Dt → Dt → Prop} {a : Dt} (hc : cost ≤ n) (hp : pre a) (h : ∀ e, post a e → k e (n - cost)) : RCD c (fun vs H Q => spD c.K c.mg c.T (sp1 cost pre post) vs H Q E) [a] n k :=
  w_call0 rfl rfl rfl hc ⟨a, rfl, hp⟩ (fun e q => by obtain ⟨a', q1, q2⟩ := q; cases q1; exact h e q2) fun _ _ z => z
theorem c_fn2 {pre : Dt → Dt → Prop} {post : Dt → Dt → Dt → Prop} {a b : Dt} (hc : cost ≤ n) (hp : pre a b) (h : ∀ e, post a b e → k e (n - cost)) : RCD c (fun vs H Q => spD c.K c.mg c.T (sp2 cost pre post) vs H Q E) [a, b] n k :=
  w_call0 rfl rfl rfl hc ⟨a, b, rfl, hp⟩ (fun e q => by obtain ⟨a', b', q1, q2⟩ := q; cases q1; exact h e q2) fun _ _ z => z
theorem c_fn3 {pre : Dt → Dt → Dt → Prop} {post : Dt → Dt → Dt → Dt → Prop} {a b x : Dt} (hc : cost ≤ n) (hp : pre a b x) (h : ∀ e, post a b x e → k e (n - cost)) : RCD c (fun vs H Q => spD c.K c.mg c.T (sp3 cost pre post) vs H Q E) [a, b, x] n k :=
  w_call0 rfl rfl rfl hc ⟨a, b, x, rfl, hp⟩ (fun e q => by obtain ⟨a', b', x', q1, q2⟩ := q; cases q1; exact h e q2) fun _ _ z => z
theorem c_fn4 {pre : Dt → Dt → Dt → Dt → Prop} {post : Dt → Dt → Dt → Dt → Dt → Prop} {a b x y : Dt} (hc : cost ≤ n) (hp : pre a b x y) (h : ∀ e, post a b x y e → k e (n - cost)) : RCD c (fun vs H Q => spD c.K c.mg c.T (sp4 cost pre post) vs H Q E) [a, b, x, y] n k :=
  w_call0 rfl rfl rfl hc ⟨a, b, x, y, rfl, hp⟩ (fun e q => by obtain ⟨a', b', x', y', q1, q2⟩ := q; cases q1; exact h e q2) fun _ _ z => z
theorem Ws.mono {Γ : List Sl} {M M' : Nd} (h : Ws c Γ n t M) (h1 : ∀ Γ m, M.nx Γ m → M'.nx Γ m) (h2 : ∀ d m, M.rt d m → M'.rt d m) (h3 : ∀ Γ m, M.bk Γ m → M'.bk Γ m) (h4 : ∀ Γ m, M.ct Γ m → M'.ct Γ m) : Ws c Γ n t M' :=
  fun ρ av o σ H S D L => h ρ av o σ H S D ⟨fun av o Γ n σ H S q => L.nx av o Γ n σ H S (h1 _ _ q), fun av v H d n s kp p da q => L.rt av v H d n s kp p da (h2 _ _ q), fun av o Γ n σ H S q => L.bk av o Γ n σ H S (h3 _ _ q), fun av o Γ n σ H S q => L.ct av o Γ n σ H S (h4 _ _ q)⟩
/-- a sequence, cut: P holds between -/
theorem w_cut {Γ : List Sl} {u : TS} {M : Nd} (P : List Sl → Nat → Prop) (h : Ws c Γ n t { M with nx := P }) (h2 : ∀ Γ' n', P Γ' n' → Ws c Γ' n' u M) : Ws c Γ n (tSeq t u) M :=
  w_seq (h.mono h2 (fun _ _ z => z) (fun _ _ z => z) fun _ _ z => z)
theorem b_fn1 {pre : Dt → Prop} {post : Dt → Dt → Prop} (h : ∀ a n, pre a → Ws c (gam N [a]) (n + cost) t (nd n (post a))) : ∀ ds n, (sp1 cost pre post).pre ds → Ws c (gam N ds) (n + (sp1 cost pre post).cost) t (ndOf (sp1 cost pre post) ds n) := by
  rintro ds n ⟨a, rfl, hp⟩
  exact (h a n hp).mono (fun _ _ z => ⟨⟨a, rfl, z.1⟩, z.2⟩) (fun _ _ z => ⟨⟨a, rfl, z.1⟩, z.2⟩) (fun _ _ z => z) fun _ _ z => z
theorem b_fn2 {pre : Dt → Dt → Prop} {post : Dt → Dt → Dt → Prop} (h : ∀ a b n, pre a b → Ws c (gam N [a, b]) (n + cost) t (nd n (post a b))) : ∀ ds n, (sp2 cost pre post).pre ds → Ws c (gam N ds) (n + (sp2 cost pre post).cost) t (ndOf (sp2 cost pre post) ds n) := by
  rintro ds n ⟨a, b, rfl, hp⟩
  exact (h a b n hp).mono (fun _ _ z => ⟨⟨a, b, rfl, z.1⟩, z.2⟩) (fun _ _ z => ⟨⟨a, b, rfl, z.1⟩, z.2⟩) (fun _ _ z => z) fun _ _ z => z
theorem b_fn3 {pre : Dt → Dt → Dt → Prop} {post : Dt → Dt → Dt → Dt → Prop} (h : ∀ a b x n, pre a b x → Ws c (gam N [a, b, x]) (n + cost) t (nd n (post a b x))) : ∀ ds n, (sp3 cost pre post).pre ds → Ws c (gam N ds) (n + (sp3 cost pre post).cost) t (ndOf (sp3 cost pre post) ds n) := by
  rintro ds n ⟨a, b, x, rfl, hp⟩
  exact (h a b x n hp).mono (fun _ _ z => ⟨⟨a, b, x, rfl, z.1⟩, z.2⟩) (fun _ _ z => ⟨⟨a, b, x, rfl, z.1⟩, z.2⟩) (fun _ _ z => z) fun _ _ z => z
theorem b_fn4 {pre : Dt → Dt → Dt → Dt → Prop} {post : Dt → Dt → Dt → Dt → Dt → Prop} (h : ∀ a b x y n, pre a b x y → Ws c (gam N [a, b, x, y]) (n + cost) t (nd n (post a b x y))) : ∀ ds n, (sp4 cost pre post).pre ds → Ws c (gam N ds) (n + (sp4 cost pre post).cost) t (ndOf (sp4 cost pre post) ds n) := by
  rintro ds n ⟨a, b, x, y, rfl, hp⟩
  exact (h a b x y n hp).mono (fun _ _ z => ⟨⟨a, b, x, y, rfl, z.1⟩, z.2⟩) (fun _ _ z => ⟨⟨a, b, x, y, rfl, z.1⟩, z.2⟩) (fun _ _ z => z) fun _ _ z => z
theorem l_fn1 {pre : Dt → Prop} {post : Dt → Dt → Prop} : ∀ ds, (sp1 cost pre post).pre ds → ds.length = 1 := by rintro ds ⟨a, rfl, _⟩; rfl
theorem l_fn2 {pre : Dt → Dt → Prop} {post : Dt → Dt → Dt → Prop} : ∀ ds, (sp2 cost pre post).pre ds → ds.length = 2 := by rintro ds ⟨a, b, rfl, _⟩; rfl
theorem l_fn3 {pre : Dt → Dt → Dt → Prop} {post : Dt → Dt → Dt → Dt → Prop} : ∀ ds, (sp3 cost pre post).pre ds → ds.length = 3 := by rintro ds ⟨a, b, _, rfl, _⟩; rfl
theorem l_fn4 {pre : Dt → Dt → Dt → Dt → Prop} {post : Dt → Dt → Dt → Dt → Dt → Prop} : ∀ ds, (sp4 cost pre post).pre ds → ds.length = 4 := by rintro ds ⟨a, b, _, _, rfl, _⟩; rfl
theorem l_draw : ∀ ds, S_draw.pre ds → ds.length = 2 := by rintro ds ⟨m, rfl, _⟩; rfl
theorem b_draw (h : ∀ (m : Int) n, 0 < m → m < 1073741824 → Ws c (gam N [.pen, .int m]) (n + 1) t (nd n fun e => ∃ i : Int, e = .int i ∧ 0 ≤ i ∧ i < m)) : ∀ ds n, S_draw.pre ds → Ws c (gam N ds) (n + S_draw.cost) t (ndOf S_draw ds n) := by
  rintro ds n ⟨m, rfl, h1, h2⟩
  refine (h m n h1 h2).mono (fun _ _ z => ?_) (fun _ _ z => ?_) (fun _ _ z => z) fun _ _ z => z
  · obtain ⟨⟨i, q1, q2, q3⟩, q4⟩ := z
    exact ⟨⟨m, i, rfl, q1, q2, q3⟩, q4⟩
  · obtain ⟨⟨i, q1, q2, q3⟩, q4⟩ := z
    exact ⟨⟨m, i, rfl, q1, q2, q3⟩, q4⟩
end
/-! ### places, lengths -/
theorem atI_nat {α : Type} {xs : List α} {i : Int} (h0 : 0 ≤ i) (h1 : i < xs.length) : ∃ d, atI xs i = some d ∧ d ∈ xs := by
  have hi : i.toNat < xs.length := by omega
  refine ⟨xs[i.toNat], ?_, List.getElem_mem hi⟩
  unfold atI ixN
  rw [if_pos h0, if_pos (by omega)]
  show xs[i.toNat]? = _
  exact List.getElem?_eq_getElem hi
theorem r_ixL_any {c : Fc} {n : Nat} {k : Dt → Prop} {ds : List Dt} {i : Int} (h0 : 0 ≤ i) (h1 : i < ds.length) (h : ∀ d ∈ ds, k d) : R2D c n (rIx c.K) (.lst ds) (.int i) k := by
  obtain ⟨d, e, m⟩ := atI_nat h0 h1
  exact r_ixL e (h d m)
theorem r_ixT_any {c : Fc} {n : Nat} {k : Dt → Prop} {ds : List Dt} {i : Int} (h0 : 0 ≤ i) (h1 : i < ds.length) (h : ∀ d ∈ ds, k d) : R2D c n (rIx c.K) (.tup ds) (.int i) k := by
  obtain ⟨d, e, m⟩ := atI_nat h0 h1
  exact r_ixT e (h d m)
theorem r_ixS_any {c : Fc} {n : Nat} {k : Dt → Prop} {z : Str} {i : Int} (hz : szOk z.length = true) (h0 : 0 ≤ i) (h1 : i < z.length) (h : ∀ s ∈ z.cps.toList, k (.str ⟨#[s]⟩)) : R2D c n (rIx c.K) (.str z) (.int i) k := by
  obtain ⟨d, e, m⟩ := atI_nat (xs := z.cps.toList) h0 (by rw [Array.length_toList]; exact h1)
  exact r_ixS hz e (h d m)
theorem sz_of {n m : Nat} (h : n ≤ m) (hm : szOk m = true) : szOk n = true := by
  have := Nat.le_of_ble_eq_true hm
  exact Nat.ble_eq_true_of_le (by omega)
theorem cutS_len (z : Str) (lo hi : Option Int) : (cutS z lo hi).length ≤ z.length := by
  show ((z.cps.toList.drop (HT.sIx z.length 0 lo)).take (HT.sIx z.length z.length hi - HT.sIx z.length 0 lo)).toArray.size ≤ z.cps.size
  rw [List.size_toArray, List.length_take, List.length_drop, Array.length_toList]
  omega
theorem join_len {z : Str} {ys : List Str} {b : Nat} (h : ∀ y ∈ ys, y.length ≤ b) : (ys.map (·.length)).sum ≤ ys.length * b := by
  induction ys with
  | nil => simp
  | cons y ys ih =>
    rw [List.map_cons, List.sum_cons, List.length_cons, Nat.add_mul, Nat.one_mul]
    have := h y (by simp)
    have := ih fun y hy => h y (by simp [hy])
    omega
theorem joined_len (z : Str) (ys : List Str) : (Txt.join z ys).length ≤ (ys.map (·.length)).sum + ys.length * z.length := by
  show (Builtin.Str.glued z ys).length ≤ _
  rw [StrLaws.glued_eq_join]
  exact StrLaws.join_length_le z ys
/-- a list of texts -/
theorem strs_of {ds : List Dt} {p : Str → Prop} (h : ∀ d ∈ ds, ∃ z, d = .str z ∧ p z) : ∃ ys : List Str, ds = ys.map Dt.str ∧ ∀ y ∈ ys, p y := by
  induction ds with
  | nil => exact ⟨[], rfl, by simp⟩
  | cons d ds ih =>
    obtain ⟨z, rfl, hz⟩ := h d (by simp)
    obtain ⟨ys, rfl, hy⟩ := ih fun e he => h e (by simp [he])
    refine ⟨z :: ys, rfl, fun y q => ?_⟩
    cases q with
    | head => exact hz
    | tail _ q => exact hy y q
/-! ### plain data: equality -/
mutual
/-- no dict, no object, no pen; nested k deep at most -/
def Dt.pl : Nat → Dt → Bool
  | _, .non => true
  | _, .bl _ => true
  | _, .int _ => true
  | _, .str x => PyData.strOk x
  | k + 1, .lst xs => Dt.pls k xs
  | k + 1, .tup xs => Dt.pls k xs
  | _, _ => false
def Dt.pls : Nat → List Dt → Bool
  | _, [] => true
  | k, x :: xs => Dt.pl k x && Dt.pls k xs
end
mutual
def Dt.eqv : Dt → Dt → Bool
  | .non, .non => true
  | .bl a, .bl b => a == b
  | .bl a, .int j => (if a then 1 else 0) == j
  | .int i, .bl b => i == (if b then 1 else 0)
  | .int i, .int j => i == j
  | .str x, .str y => x == y
  | .lst xs, .lst ys => Dt.eqvs xs ys
  | .tup xs, .tup ys => Dt.eqvs xs ys
  | _, _ => false
def Dt.eqvs : List Dt → List Dt → Bool
  | [], [] => true
  | x :: xs, y :: ys => Dt.eqv x y && Dt.eqvs xs ys
  | _, _ => false
end
mutual
theorem pl_py : ∀ (k : Nat) (d : Dt), d.pl k = true → ∃ e, d.py = some e ∧ e.canLay0 = true ∧ e.depth ≤ k
  | _, .non, _ => ⟨.none, rfl, rfl, Nat.zero_le _⟩
  | _, .bl b, _ => ⟨.bool b, rfl, rfl, Nat.zero_le _⟩
  | _, .int i, _ => ⟨.int i, rfl, rfl, Nat.zero_le _⟩
  | _, .str x, h => ⟨.str x, rfl, by simpa [Dt.pl, PyData.canLay0] using h, Nat.zero_le _⟩
  | 0, .lst xs, h => by simp [Dt.pl] at h
  | 0, .tup xs, h => by simp [Dt.pl] at h
  | k + 1, .lst xs, h => by
    obtain ⟨es, h1, h2, h3⟩ := pls_py k xs (by simpa [Dt.pl] using h)
    refine ⟨.list es, ?_, by simpa [PyData.canLay0] using h2, by simpa [PyData.depth] using h3⟩
    show (Dt.pyAll xs).map PyData.list = _
    rw [h1]; rfl
  | k + 1, .tup xs, h => by
    obtain ⟨es, h1, h2, h3⟩ := pls_py k xs (by simpa [Dt.pl] using h)
    refine ⟨.tuple es, ?_, by simpa [PyData.canLay0] using h2, by simpa [PyData.depth] using h3⟩
    show (Dt.pyAll xs).map PyData.tuple = _
    rw [h1]; rfl
  | _, .dic _ _, h => by simp [Dt.pl] at h
  | _, .obj _ _ _, h => by simp [Dt.pl] at h
  | _, .err _ _ _, h => by simp [Dt.pl] at h
  | _, .pen, h => by simp [Dt.pl] at h
theorem pls_py : ∀ (k : Nat) (ds : List Dt), Dt.pls k ds = true → ∃ es, Dt.pyAll ds = some es ∧ PyData.canLayAll0 es = true ∧ PyData.depthAll es ≤ k
  | _, [], _ => ⟨[], rfl, rfl, Nat.zero_le _⟩
  | k, d :: ds, h => by
    have h' : d.pl k = true ∧ Dt.pls k ds = true := by simpa [Dt.pls] using h
    obtain ⟨e, h1, h2, h3⟩ := pl_py k d h'.1
    obtain ⟨es, h4, h5, h6⟩ := pls_py k ds h'.2
    refine ⟨e :: es, ?_, by simp [PyData.canLayAll0, h2, h5], by simp [PyData.depthAll]; omega⟩
    show ((Dt.py d).bind fun x => (Dt.pyAll ds).map fun xs => x :: xs) = _
    rw [h1, h4]; rfl
end
theorem py_lst {xs : List Dt} {a : PyData} (h : Dt.py (.lst xs) = some a) : ∃ as, Dt.pyAll xs = some as ∧ a = .list as := by
  have h' : (Dt.pyAll xs).map PyData.list = some a := h
  obtain ⟨as, q, rfl⟩ := Option.map_eq_some_iff.mp h'
  exact ⟨as, q, rfl⟩
theorem py_tup {xs : List Dt} {a : PyData} (h : Dt.py (.tup xs) = some a) : ∃ as, Dt.pyAll xs = some as ∧ a = .tuple as := by
  have h' : (Dt.pyAll xs).map PyData.tuple = some a := h
  obtain ⟨as, q, rfl⟩ := Option.map_eq_some_iff.mp h'
  exact ⟨as, q, rfl⟩
theorem pys_cons {d : Dt} {ds : List Dt} {as : List PyData} (h : Dt.pyAll (d :: ds) = some as) : ∃ b bs, Dt.py d = some b ∧ Dt.pyAll ds = some bs ∧ as = b :: bs := by
  have q' : ((Dt.py d).bind fun x => (Dt.pyAll ds).map fun xs => x :: xs) = some as := h
  obtain ⟨x, q1, q2⟩ := Option.bind_eq_some_iff.mp q'
  obtain ⟨xs, q3, q4⟩ := Option.map_eq_some_iff.mp q2
  exact ⟨x, xs, q1, q3, q4.symm⟩
mutual
theorem eqv_py : ∀ (d e : Dt) (a b : PyData), d.py = some a → e.py = some b → PyData.eqv a b = Dt.eqv d e
  | .lst xs, e, a, b, h1, h2 => by
    obtain ⟨as, q, rfl⟩ := py_lst h1
    cases e with
    | lst ys =>
      obtain ⟨bs, q2, rfl⟩ := py_lst h2
      simp only [PyData.eqv, Dt.eqv]
      exact eqvs_py xs ys as bs q q2
    | tup ys => obtain ⟨bs, q2, rfl⟩ := py_tup h2; rfl
    | dic _ _ => cases h2
    | obj _ _ _ => cases h2
    | err _ _ _ => cases h2
    | pen => cases h2
    | _ => cases h2; rfl
  | .tup xs, e, a, b, h1, h2 => by
    obtain ⟨as, q, rfl⟩ := py_tup h1
    cases e with
    | tup ys =>
      obtain ⟨bs, q2, rfl⟩ := py_tup h2
      simp only [PyData.eqv, Dt.eqv]
      exact eqvs_py xs ys as bs q q2
    | lst ys => obtain ⟨bs, q2, rfl⟩ := py_lst h2; rfl
    | dic _ _ => cases h2
    | obj _ _ _ => cases h2
    | err _ _ _ => cases h2
    | pen => cases h2
    | _ => cases h2; rfl
  | .dic _ _, _, _, _, h1, _ => by cases h1
  | .obj _ _ _, _, _, _, h1, _ => by cases h1
  | .err _ _ _, _, _, _, h1, _ => by cases h1
  | .pen, _, _, _, h1, _ => by cases h1
  | .non, e, a, b, h1, h2 => by
    cases h1
    cases e with
    | lst ys => obtain ⟨bs, q2, rfl⟩ := py_lst h2; rfl
    | tup ys => obtain ⟨bs, q2, rfl⟩ := py_tup h2; rfl
    | dic _ _ => cases h2
    | obj _ _ _ => cases h2
    | err _ _ _ => cases h2
    | pen => cases h2
    | _ => cases h2; rfl
  | .bl _, e, a, b, h1, h2 => by
    cases h1
    cases e with
    | lst ys => obtain ⟨bs, q2, rfl⟩ := py_lst h2; rfl
    | tup ys => obtain ⟨bs, q2, rfl⟩ := py_tup h2; rfl
    | dic _ _ => cases h2
    | obj _ _ _ => cases h2
    | err _ _ _ => cases h2
    | pen => cases h2
    | _ => cases h2; rfl
  | .int _, e, a, b, h1, h2 => by
    cases h1
    cases e with
    | lst ys => obtain ⟨bs, q2, rfl⟩ := py_lst h2; rfl
    | tup ys => obtain ⟨bs, q2, rfl⟩ := py_tup h2; rfl
    | dic _ _ => cases h2
    | obj _ _ _ => cases h2
    | err _ _ _ => cases h2
    | pen => cases h2
    | _ => cases h2; rfl
  | .str _, e, a, b, h1, h2 => by
    cases h1
    cases e with
    | lst ys => obtain ⟨bs, q2, rfl⟩ := py_lst h2; rfl
    | tup ys => obtain ⟨bs, q2, rfl⟩ := py_tup h2; rfl
    | dic _ _ => cases h2
    | obj _ _ _ => cases h2
    | err _ _ _ => cases h2
    | pen => cases h2
    | _ => cases h2; rfl
theorem eqvs_py : ∀ (ds es : List Dt) (as bs : List PyData), Dt.pyAll ds = some as → Dt.pyAll es = some bs → PyData.eqvAll as bs = Dt.eqvs ds es
  | [], es, as, bs, h1, h2 => by
    cases h1
    cases es with
    | nil => cases h2; rfl
    | cons e es => obtain ⟨b, bs', _, _, rfl⟩ := pys_cons h2; rfl
  | d :: ds, es, as, bs, h1, h2 => by
    obtain ⟨a, as', q1, q2, rfl⟩ := pys_cons h1
    cases es with
    | nil => cases h2; rfl
    | cons e es =>
      obtain ⟨b, bs', q3, q4, rfl⟩ := pys_cons h2
      simp only [PyData.eqvAll, Dt.eqvs]
      rw [eqv_py d e a b q1 q3, eqvs_py ds es as' bs' q2 q4]
end
theorem r_eqP {c : Fc} {n : Nat} {k : Dt → Prop} {d e : Dt} (hd : d.pl 20 = true) (he : e.pl 20 = true) (h : k (.bl (d.eqv e))) : R2D c n (rEqX c.K) d e k := by
  obtain ⟨a, h1, h2, h3⟩ := pl_py 20 d hd
  obtain ⟨b, h4, h5, h6⟩ := pl_py 20 e he
  refine r_eqD h1 h4 ?_ ?_ (by rw [eqv_py d e a b h1 h4]; exact h)
  · show (a.canLay0 && decide (a.depth ≤ 64)) = true
    rw [h2, decide_eq_true (by omega)]; rfl
  · show (b.canLay0 && decide (b.depth ≤ 64)) = true
    rw [h5, decide_eq_true (by omega)]; rfl
theorem r_neP {c : Fc} {n : Nat} {k : Dt → Prop} {d e : Dt} (hd : d.pl 20 = true) (he : e.pl 20 = true) (h : k (.bl (!d.eqv e))) : R2D c n (rNeX c.K) d e k := by
  obtain ⟨a, h1, h2, h3⟩ := pl_py 20 d hd
  obtain ⟨b, h4, h5, h6⟩ := pl_py 20 e he
  refine r_neD h1 h4 ?_ ?_ (by rw [eqv_py d e a b h1 h4]; exact h)
  · show (a.canLay0 && decide (a.depth ≤ 64)) = true
    rw [h2, decide_eq_true (by omega)]; rfl
  · show (b.canLay0 && decide (b.depth ≤ 64)) = true
    rw [h5, decide_eq_true (by omega)]; rfl
mutual
theorem eqv_self : ∀ (k : Nat) (d : Dt), d.pl k = true → d.eqv d = true
  | _, .non, _ => rfl
  | _, .bl b, _ => by simp [Dt.eqv]
  | _, .int i, _ => by simp [Dt.eqv]
  | _, .str x, _ => by simp [Dt.eqv]
  | 0, .lst xs, h => by simp [Dt.pl] at h
  | 0, .tup xs, h => by simp [Dt.pl] at h
  | k + 1, .lst xs, h => by simp only [Dt.eqv]; exact eqvs_self k xs (by simpa [Dt.pl] using h)
  | k + 1, .tup xs, h => by simp only [Dt.eqv]; exact eqvs_self k xs (by simpa [Dt.pl] using h)
  | _, .dic _ _, h => by simp [Dt.pl] at h
  | _, .obj _ _ _, h => by simp [Dt.pl] at h
  | _, .err _ _ _, h => by simp [Dt.pl] at h
  | _, .pen, h => by simp [Dt.pl] at h
theorem eqvs_self : ∀ (k : Nat) (ds : List Dt), Dt.pls k ds = true → Dt.eqvs ds ds = true
  | _, [], _ => rfl
  | k, d :: ds, h => by
    have h' : d.pl k = true ∧ Dt.pls k ds = true := by simpa [Dt.pls] using h
    simp only [Dt.eqvs]
    rw [eqv_self k d h'.1, eqvs_self k ds h'.2]; rfl
end
theorem pls_all {k : Nat} : ∀ {ds : List Dt}, (∀ d ∈ ds, d.pl k = true) → Dt.pls k ds = true
  | [], _ => rfl
  | d :: ds, h => by
    simp only [Dt.pls]
    rw [h d (by simp), pls_all fun e he => h e (by simp [he])]
    rfl
theorem pl_lst {k : Nat} {ds : List Dt} (h : ∀ d ∈ ds, d.pl k = true) : (Dt.lst ds).pl (k + 1) = true := by simp only [Dt.pl]; exact pls_all h
theorem pl_tup {k : Nat} {ds : List Dt} (h : ∀ d ∈ ds, d.pl k = true) : (Dt.tup ds).pl (k + 1) = true := by simp only [Dt.pl]; exact pls_all h
theorem pl_ints {k : Nat} (ns : List Int) : (Dt.lst (ns.map Dt.int)).pl (k + 1) = true := pl_lst fun d hd => by
  obtain ⟨i, _, rfl⟩ := List.mem_map.mp hd
  simp [Dt.pl]
theorem pl_strs {k : Nat} {ns : List Str} (h : ∀ x ∈ ns, PyData.strOk x = true) : (Dt.lst (ns.map Dt.str)).pl (k + 1) = true := pl_lst fun d hd => by
  obtain ⟨i, hi, rfl⟩ := List.mem_map.mp hd
  simpa [Dt.pl] using h i hi
theorem eqv_nil (ds : List Dt) : (Dt.lst ds).eqv (.lst []) = ds.isEmpty := by
  cases ds <;> rfl
/-! ### the pen's list, and a draw's bounds -/
theorem r_neNil {c : Fc} {n : Nat} {k : Dt → Prop} {ns : List Int} (h1 : ns = [] → k (.bl false)) (h2 : 0 < ns.length → k (.bl true)) : R2D c n (rNeX c.K) (.lst (ns.map Dt.int)) (.lst []) k := by
  refine r_neP (pl_ints ns) rfl ?_
  rw [eqv_nil]
  cases ns with
  | nil => exact h1 rfl
  | cons i ns => exact h2 (by simp)
theorem mul_bd {x y a b : Int} (h1 : 0 ≤ x) (h2 : x ≤ a) (h3 : 0 ≤ y) (h4 : y ≤ b) : 0 ≤ x * y ∧ x * y ≤ a * b :=
  ⟨Int.mul_nonneg h1 h3, Int.mul_le_mul h2 h4 h3 (Int.le_trans h1 h2)⟩
theorem md_bd (x : Int) {b : Int} (h : 0 < b) : 0 ≤ x % b ∧ x % b < b := ⟨Int.emod_nonneg x (by omega), Int.emod_lt_of_pos x h⟩
/-- a place of a list of whole numbers, by a rest -/
theorem r_ixI {c : Fc} {n : Nat} {k : Dt → Prop} {ns : List Int} {i : Int} (h0 : 0 ≤ i) (h1 : i < ns.length) (h : ∀ j : Int, k (.int j)) : R2D c n (rIx c.K) (.lst (ns.map Dt.int)) (.int i) k :=
  r_ixL_any h0 (by rw [List.length_map]; exact h1) fun d hd => by
    obtain ⟨j, _, rfl⟩ := List.mem_map.mp hd
    exact h j
/-! ### good texts: at most b signs, each a code point -/
def okS (b : Nat) (z : Str) : Prop := z.length ≤ b ∧ ∀ s ∈ z.cps.toList, s < 1114112
def okSb (b : Nat) (z : Str) : Bool := decide (z.length ≤ b) && z.cps.toList.all fun s => decide (s < 1114112)
theorem okS_of {b : Nat} {z : Str} (h : okSb b z = true) : okS b z := by
  obtain ⟨h1, h2⟩ := Bool.and_eq_true_iff.mp h
  exact ⟨of_decide_eq_true h1, fun s hs => of_decide_eq_true (List.all_eq_true.mp h2 s hs)⟩
theorem okS.mono {a b : Nat} {z : Str} (h : okS a z) (hb : a ≤ b) : okS b z := ⟨Nat.le_trans h.1 hb, h.2⟩
theorem okS.strOk {b : Nat} {z : Str} (h : okS b z) : PyData.strOk z = true := by
  unfold PyData.strOk
  rw [Array.all_eq_true']
  intro x hx
  exact decide_eq_true (h.2 x (by simpa using hx))
theorem app_list (x y : Str) : (x ++ y).cps.toList = x.cps.toList ++ y.cps.toList := by
  rw [Str.cps_append, Array.toList_append]
theorem okS.app {a b : Nat} {x y : Str} (h : okS a x) (h2 : okS b y) : okS (a + b) (x ++ y) := by
  refine ⟨by rw [Str.length_append]; have := h.1; have := h2.1; omega, fun s hs => ?_⟩
  rw [app_list] at hs
  exact (List.mem_append.mp hs).elim (h.2 s) (h2.2 s)
theorem okS.cut {a : Nat} {x : Str} (h : okS a x) (lo hi : Option Int) : okS a (cutS x lo hi) := by
  refine ⟨Nat.le_trans (cutS_len x lo hi) h.1, fun s hs => h.2 s ?_⟩
  have e : (cutS x lo hi).cps.toList = (x.cps.toList.drop (HT.sIx x.length 0 lo)).take (HT.sIx x.length x.length hi - HT.sIx x.length 0 lo) := rfl
  rw [e] at hs
  exact List.mem_of_mem_drop (List.mem_of_mem_take hs)
theorem okS.one {s : Nat} (h : s < 1114112) : okS 1 ⟨#[s]⟩ := ⟨Nat.le_refl _, fun t ht => by
  have : t = s := by simpa using ht
  omega⟩
theorem join_okS {z : Str} {a b : Nat} (hz : okS a z) : ∀ {ys : List Str}, (∀ y ∈ ys, okS b y) → okS (ys.length * (a + b)) (Str.join z ys)
  | [], _ => ⟨Nat.zero_le _, fun s hs => by simp [Str.join, Str.empty] at hs⟩
  | [x], h => (h x (by simp)).mono (by simp)
  | x :: y :: r, h => by
    have q := ((h x (by simp)).app hz).app (join_okS hz (ys := y :: r) fun w hw => h w (by simp [hw]))
    refine q.mono ?_
    simp only [List.length_cons, Nat.add_mul]
    omega
theorem joined_okS {z : Str} {ys : List Str} {a b : Nat} (hz : okS a z) (h : ∀ y ∈ ys, okS b y) : okS (ys.length * (a + b)) (Txt.join z ys) := by
  show okS _ (Builtin.Str.glued z ys)
  rw [StrLaws.glued_eq_join]
  exact join_okS hz h
theorem join_mem_list {z : Str} : ∀ {ys : List Str} {y : Str} {s : Nat}, y ∈ ys → s ∈ y.cps.toList → s ∈ (Str.join z ys).cps.toList
  | [x], y, s, h, hs => by
    have e : y = x := by simpa using h
    rw [e] at hs
    exact hs
  | x :: w :: r, y, s, h, hs => by
    show s ∈ (x ++ z ++ Str.join z (w :: r)).cps.toList
    rw [app_list, app_list]
    rcases List.mem_cons.mp h with e | h
    · subst e
      simp [hs]
    · have := join_mem_list (z := z) h hs
      simp [this]
theorem split_okS {x y : Str} {b : Nat} (h : okS b x) : ∀ z ∈ Txt.split x y, okS b z := by
  intro z hz
  have e := StrLaws.join_split x y
  refine ⟨?_, fun s hs => ?_⟩
  · have q := join_mem_le y _ z hz
    rw [e] at q
    exact Nat.le_trans q h.1
  · have q := join_mem_list (z := y) hz hs
    rw [e] at q
    exact h.2 s q
/-! ### comprehensions over a mapped list -/
section
variable {c : Fc} {Γ : List Sl} {n : Nat} {g : TG} {tt : TT} {te : TE} {vs js : List Nat} {k : List Dt → Nat → Prop} {α : Type}
theorem lc_map (xs : List α) (u h : α → Dt) (hz : szOk xs.length = true)
    (turn : ∀ x ∈ xs, ∀ m, n ≤ m → Wg c (wipeG Γ vs) m js g (u x) fun Γ2 m2 => We c Γ2 m2 te fun e m4 => e = h x ∧ m ≤ m4)
    (done : ∀ m, n ≤ m → k (xs.map h) m) : LcAsk c Γ js vs g tYes te (xs.map u) n k := by
  refine ⟨fun i es m => i ≤ xs.length ∧ es = (xs.take i).map h ∧ n ≤ m, ⟨Nat.zero_le _, rfl, Nat.le_refl _⟩, fun i es m d hd q => ?_, fun es m q => ?_⟩
  · obtain ⟨h1, h2, h3⟩ := q
    rw [List.getElem?_map, Option.map_eq_some_iff] at hd
    obtain ⟨x, hx, rfl⟩ := hd
    obtain ⟨hi, ed⟩ := List.getElem?_eq_some_iff.mp hx
    intro ρ av o σ H v S da Q hQ
    refine turn x (ed ▸ List.getElem_mem hi) m h3 ρ av o σ H v S da Q fun Γ' σ' S' b kk => ?_
    refine hQ Γ' σ' S' b (wt_yes (ite_t rfl (kk.mono fun e m4 z => ⟨?_, hi, ?_, by have := z.2; omega⟩)))
    · rw [h2, List.length_map, List.length_take]
      have := Nat.le_of_ble_eq_true hz
      exact Nat.ble_eq_true_of_le (show _ + 1 ≤ 16777216 by omega)
    · rw [List.take_succ, hx, List.map_append, h2, z.1]
      rfl
  · obtain ⟨h1, h2, h3⟩ := q
    rw [List.length_map, List.take_length] at h2
    rw [h2]
    exact done m h3
theorem lc_mapF (xs : List α) (u h : α → Dt) (p : α → Bool) (hz : szOk xs.length = true)
    (turn : ∀ x ∈ xs, ∀ m, n ≤ m → Wg c (wipeG Γ vs) m js g (u x) fun Γ2 m2 => Wt c Γ2 m2 tt fun b m3 => b = p x ∧ m ≤ m3 ∧ (b = true → We c Γ2 m3 te fun e m4 => e = h x ∧ m ≤ m4))
    (done : ∀ m, n ≤ m → k ((xs.filter p).map h) m) : LcAsk c Γ js vs g tt te (xs.map u) n k := by
  refine ⟨fun i es m => i ≤ xs.length ∧ es = ((xs.take i).filter p).map h ∧ n ≤ m, ⟨Nat.zero_le _, rfl, Nat.le_refl _⟩, fun i es m d hd q => ?_, fun es m q => ?_⟩
  · obtain ⟨h1, h2, h3⟩ := q
    rw [List.getElem?_map, Option.map_eq_some_iff] at hd
    obtain ⟨x, hx, rfl⟩ := hd
    obtain ⟨hi, ed⟩ := List.getElem?_eq_some_iff.mp hx
    intro ρ av o σ H v S da Q hQ
    refine turn x (ed ▸ List.getElem_mem hi) m h3 ρ av o σ H v S da Q fun Γ' σ' S' b kk => ?_
    refine hQ Γ' σ' S' b fun ρ av o σ H S Q hQ => kk ρ av o σ H S Q fun b H' n' S' y z => hQ b H' n' S' y ?_
    obtain ⟨e1, e2, e3⟩ := z
    refine ite_b (fun hb => (e3 hb).mono fun e m4 z => ⟨?_, hi, ?_, by have := z.2; omega⟩) fun hb => ⟨hi, ?_, by omega⟩
    · rw [h2, List.length_map]
      have a := List.length_filter_le p (xs.take i)
      rw [List.length_take] at a
      have := Nat.le_of_ble_eq_true hz
      exact Nat.ble_eq_true_of_le (show _ + 1 ≤ 16777216 by omega)
    · rw [List.take_succ, hx, List.filter_append, List.map_append, h2, z.1]
      show _ = _ ++ List.map h (List.filter p [x])
      rw [List.filter_cons, if_pos (e1 ▸ hb)]
      rfl
    · rw [List.take_succ, hx, List.filter_append, List.map_append, h2]
      show _ = _ ++ List.map h (List.filter p [x])
      rw [List.filter_cons, if_neg (by rw [← e1, hb]; decide)]
      exact (List.append_nil _).symm
  · obtain ⟨h1, h2, h3⟩ := q
    rw [List.length_map, List.take_length] at h2
    rw [h2]
    exact done m h3
end
/-! ### by one name -/
section
variable {c : Fc} {Γ : List Sl} {n i : Nat} {wi : TI} {tt : TT} {te : TE} {tb : TS} {N : Nd} {k : Kd}
theorem w_forN (h : Wi c Γ n wi fun ds n1 => ∃ I : Nat → List Sl → Nat → Prop, I 0 (Γ.map outS) n1 ∧
      (∀ j Γ' m d, ds[j]? = some d → Γ'.length = Γ.length → I j Γ' m → Wg c Γ' m [i] (gName i) d fun Γ2 m2 => Ws c Γ2 m2 tb { nx := I (j + 1), ct := I (j + 1), rt := N.rt, bk := fun Γ3 m3 => N.nx (back Γ Γ3) m3 }) ∧
      (∀ Γ' m, Γ'.length = Γ.length → I ds.length Γ' m → N.nx (back Γ Γ') m)) : Ws c Γ n (tFor wi (gName i) tb) N := w_for h
theorem w_lcN (h : Wi c Γ n wi fun ds n1 => LcAsk c Γ [i] [i] (gName i) tt te ds n1 fun es m => k (.lst es) m) : We c Γ n (tLc wi (gName i) tt te [i]) k := w_lc (by simp) h
end
theorem ex_rng1 {x : Int} {p : Int → Prop} (hb : -(2 ^ 62) ≤ x ∧ x < 2 ^ 62) (h : p x) : ∃ j : Int, [Dt.int x] = [Dt.int j] ∧ (-(2 ^ 62) ≤ j ∧ j < 2 ^ 62) ∧ p j := ⟨x, rfl, hb, h⟩
theorem ex_rng2 {x y : Int} {p : Int → Int → Prop} (hb : -(2 ^ 62) ≤ x ∧ x < 2 ^ 62 ∧ -(2 ^ 62) ≤ y ∧ y < 2 ^ 62) (h : p x y) : ∃ i j : Int, [Dt.int x, Dt.int y] = [Dt.int i, Dt.int j] ∧ (-(2 ^ 62) ≤ i ∧ i < 2 ^ 62 ∧ -(2 ^ 62) ≤ j ∧ j < 2 ^ 62) ∧ p i j := ⟨x, y, rfl, hb, h⟩
end Pb
namespace Pb
open PySem PySem.W PySem.Calls PyProof.Rows PySem.HandSPX

/-! ### an own error over ValueError whose __init__ says super().__init__(f) and self.f = f -/
/-- what the written part says of the class at C and of its __init__ at fI; f its field -/
structure SupT (P : Program) (K : Frag) (mg : Str → Option Value) (C fI : Addr) (f : Str) : Prop where
  cls : ∃ nm q N bs bm sn sub ab col dd k0 k1 k2 k3 k5, K.lookup C = some (excClassObj nm q C N bs bm true sn sub ab col dd k0 k1 k2 k3 k5 "ValueError.__new__") ∧ refsVE bm = true
  sa : findIn K (.ref C) "__setattr__" = some (some (.builtin "object.__setattr__"))
  noF : findIn K (.ref C) f = some none
  iC : findIn K (.ref C) "__init__" = some (some (.ref fI))
  tI : typeIn K (.ref fI) = some (.type "function")
  kC : keepIn K (.ref C) = true
  exC : subIn K (.ref C) (.type "BaseException") = some true
  veC : subIn K (.ref C) (.type "ValueError") = some true
  tyC : typeIn K (.ref C) = some (.type "type")
  me : mroIn K C (.ref C) = some true
  up : ks_superIn K C C "__init__" = some (some (.builtin "ValueError.__init__"))
  op : nsIn K cStatics "thirdparty.any" = some none
  noS : mg "super" = none
  top : (P.main.scope.names.lookup ("super" : Str)).isSome = false
  fn : ∃ (oc : Value) (od : Option Addr) (qual : Str) (params : Arguments) (scope : Scope) (dV kV doc pm : Value) (an : Option Addr) (cda cc : Addr) (ct : Value) (osl : Array (Option Value)) (a1 a2 a3 a4 a5 a6 b1 b2 b3 b4 : Pos) (ar : Arg)
    (ccl : Value) (cdd : Option Addr) (vs : Array Value) (ccs : Array (Option Value)) (file : Str) (tf : Tok) (cl : Value) (cld : Option Addr) (csl : Array (Option Value)),
    K.lookup fI = some ⟨oc, od, .func (ksFn "__init__" qual params [.Expr (.Call (.Attribute (.Call (.Name "super" a1) [] [] a2) "__init__" a3) [.Name f a4] [] a5) a6, .Assign [.Attribute (.Name "self" b1) f b2] (.Name f b3) b4] scope dV kV doc pm an (.ref cda) ct cc), osl⟩ ∧
    codeIn K (.ref cda) qual = true ∧ K.lookup cda = some ⟨ccl, cdd, .fields vs, ccs⟩ ∧ vs[2]? = some (.str file tf) ∧ ((P.main.file : Str) == file) = true ∧ K.lookup cc = some ⟨cl, cld, .cell (some (.ref C)), csl⟩ ∧
    (params.posonlyargs ++ params.args).head? = some ar ∧ ar.arg = "self" ∧ scope.kind = .function ∧ scope.isCoroutine = false ∧ scope.isGenerator = false ∧ (∀ x ∈ scope.names, x.2 ≠ .cell) ∧ scope.names.lookup ("self" : Str) = some .local ∧ scope.names.lookup f = some .local ∧
    scope.names.lookup ("__class__" : Str) = some .free ∧ scope.names.lookup ("super" : Str) = some .globalImplicit ∧ f ≠ "self" ∧ (f == ("__debug__" : Str)) = false ∧
    (∀ (s : Shared) (x v : Value), BindsTo s (ksFn "__init__" qual params [.Expr (.Call (.Attribute (.Call (.Name "super" a1) [] [] a2) "__init__" a3) [.Name f a4] [] a5) a6, .Assign [.Attribute (.Name "self" b1) f b2] (.Name f b3) b4] scope dV kV doc pm an (.ref cda) ct cc) ⟨[x, v], []⟩ [("self", x), (f, v)]) ∧
    (∀ env : Env, env.scope = scope → ∃ pl : Sem Bool, eval (.Call (.Attribute (.Call (.Name "super" a1) [] [] a2) "__init__" a3) [.Name f a4] [] a5) env = (do
      let ov ← attributeBase (.Call (.Name "super" a1) [] [] a2) "__init__" env (eval (.Call (.Name "super" a1) [] [] a2) env)
      standAt a3.atName
      let (h, first) ← holding [ov] (getMethod ov "__init__" pl)
      callWith a5 h first (backTo a5 (starEach [.Name f a4] env)) [])) ∧
    (∀ env : Env, env.scope = scope → swapsWith (.Name f b3) (some (.Attribute (.Name "self" b1) f b2)) b4.line env = pure false)
section
variable {prog : Program} {w : World} {A : Around} {E : Value → Shared → Prop} {R : Result → Shared → Prop} {s : Shared} {K : Frag} {mg mb : Str → Option Value} {C fI : Addr} {f : Str}
/-- what __init__ leaves of a fresh error at x -/
structure SupEnd (h h' : Heap) (x C dx t1 : Addr) (f : Str) (v : Value) : Prop where
  keep : ∀ b o, b ≠ x → h.get? b = some o → h'.get? b = some o
  obj : h'.get? x = some { cls := .ref C, dict := some dx, data := .fields #[.ref t1, .none, .none, .none, .bool false, .none] }
  dbig : h.objs.size ≤ dx
  dne : dx ≠ x
  ns : h'.Ns1 dx (fun y => if y = f then some v else none)
theorem one_fits (v : Value) : [v].length ≤ sizeLine := by
  rw [sizeLine_eq]
  exact (by decide : 1 ≤ 16777216)
theorem sup_init (T : SupT prog K mg C fI f) {x t0 : Addr} {v : Value} (X : K.In s.heap) (hlim : s.heap.NoLimit) (hG : s.heap.Ns mainGlobals mg) (hB : s.heap.Ns builtinsNs mb) (hb : mb "super" = some (.type "super")) (hx : s.heap.get? x = some (excO C t0)) (hnx : K.lookup x = none) (hroom : A.depth < recursionLimit)
    (hq : ∀ h' tk dx t1, SupEnd s.heap h' x C dx t1 f v → R (.ok (.ret .none)) { s with heap := h', toks := tk }) :
    codeAny (model prog w) A (.call (.ref fI) ⟨[.ref x, v], []⟩) R s := by
  obtain ⟨oc, od, qual, params, scope, dV, kV, doc, pm, an, cda, cc, ct, osl, a1, a2, a3, a4, a5, a6, b1, b2, b3, b4, ar, ccl, cdd, vs, ccs, file, tf, cl, cld, csl, ho, hcd, hcode, hvs, hfile, hcell, hp, har, hk, hco, hgen, hnc, hself, hfl, hkc, hks, hne, hdb, hbind, hev, hsw⟩ := T.fn
  obtain ⟨nm, q, N, bs, bm, sn, sub, ab, col, dd, k0, k1, k2, k3, k5, hC, hbm⟩ := T.cls
  have hcl : clsIn K C = some { name := nm, bases := bs, mro := .ref C :: bm, ns := N, qualname := q, hasDict := true, slotNames := sn, subclasses := sub, abstract := ab, collection := col, hasDel := false } := by unfold clsIn; rw [hC] <;> rfl
  refine ks_codeAny_call_defAt (binds := [("self", .ref x), (f, v)]) hroom (X _ _ ho) rfl hlim (codeRec_of X hcd) rfl (hbind s (.ref x) v) hnc ?_ (fun h₁ hns k => ?_) hco hgen hk
  · intro y hy
    rcases List.mem_cons.mp hy with rfl | hy
    · exact hself
    · rcases List.mem_cons.mp hy with rfl | hy
      · exact hfl
      · cases hy
  have hxL : s.heap.objs.size ≠ x := Nat.ne_of_gt (Heap.lt_size hx)
  have hx₁ := k _ _ hx
  have X₁ : K.In h₁ := X.keeps k
  have G₁ := hG.keeps k
  have B₁ := hB.keeps k
  obtain ⟨hp0, g, d, t, os⟩ := s
  obtain ⟨pl, hpl⟩ := hev (callEnv (ksFn "__init__" qual params _ scope dV kV doc pm an (.ref cda) ct cc) hp0.objs.size fI) rfl
  refine ks_wpAt_execs_cons (ks_wpAt_Expr_any (ks_wpAt_MethodCall (pl := pl) ?_ hpl) (by show interactive (callEnv _ _ _) = false; unfold interactive callEnv newEnv; simp [hk]))
  obtain ⟨oD, hD1, hD2⟩ : ∃ oD, h₁.get? C = some oD ∧ oD.data = .cls { name := nm, bases := bs, mro := .ref C :: bm, ns := N, qualname := q, hasDict := true, slotNames := sn, subclasses := sub, abstract := ab, collection := col, hasDel := false } := ⟨_, X₁ _ _ hC, rfl⟩
  refine ks_wpAt_super_base hks hkc (by decide) rfl (X₁ _ _ ho) rfl hp rfl (X₁ _ _ hcode) rfl hvs hfile T.top ?_
  refine ks_loadName_global hk hks (loadGlobal_builtin G₁ T.noS B₁ hb ⟨rfl, ?_⟩)
  refine wpAny_loadName_free hk hkc rfl ⟨_, X₁ _ _ hcell, rfl⟩ ?_
  rw [har]
  refine wpAny_loadName_local hk hself hns (v := .ref x) ?_ ?_
  · show List.lookup ("self" : Str) [(f, v), ("self", .ref x)] = _
    have e1 : (("self" : Str) == f) = false := by simpa using fun z => hne z.symm
    simp [List.lookup, e1]
  refine ks_wpAny_isType_cls hD1 hD2 ⟨rfl, ?_⟩
  refine ks_wpAny_call_super hD1 hD2 hx₁ rfl (fun c e => by cases e) (looks_mroIn X₁ T.me) (fun h₂ hso k₂ => ?_)
  have X₂ : K.In h₂ := X₁.keeps k₂
  have hx₂ := k₂ _ _ hx₁
  have I₂ : InstAt h₂ x (excO C t0) C none := ⟨hx₂, rfl, rfl, trivial⟩
  have hI : Looks (model prog w) h₂ (isInstance (.ref x) (.type "ValueError")) true := I₂.type.andThen (looks_subIn X₂ T.veC)
  have hup : alongIn K "__init__" (((.ref C :: bm).dropWhile (· != .ref C)).drop 1) = some (some (.builtin "ValueError.__init__")) := by
    have z := T.up
    unfold ks_superIn at z
    rw [hcl] at z
    exact z
  refine kxs_getMethod kxs_ValueError hso (looks_opaque X₂ T.op) (l₀ := .ref C :: bm) ?_ rfl X₂ hup hI (ks_ne X₂ I₂ hcl) (by decide) ?_
  · exact fun A Q E s k q => wpAny_bind ((looks_clsIn X₂ hcl) A _ E s k (wpAny_pure q))
  have k₃ : ∀ b o, h₂.get? b = some o → (h₂.push (kxs_mw "ValueError.__init__" x)).get? b = some o := fun b o e => Heap.get?_push_of_some _ e
  have kk : ∀ b o, h₁.get? b = some o → (h₂.push (kxs_mw "ValueError.__init__" x)).get? b = some o := fun b o e => k₃ b o (k₂ b o e)
  have hu : (h₂.push (kxs_mw "ValueError.__init__" x)).get? h₂.objs.size = some (kxs_mw "ValueError.__init__" x) := Heap.get?_push_at rfl rfl
  have hns₃ := hns.keeps kk
  have hx₃ := kk _ _ hx₁
  have X₃ : K.In (h₂.push (kxs_mw "ValueError.__init__" x)) := X₁.keeps kk
  have mf : List.lookup f [(f, v), (("self" : Str), .ref x)] = some v := by simp [List.lookup]
  refine kxs_callWith (i := "ValueError.__init__") (x := x) rfl (evalArgs_plain ?_)
  refine Calls.spliced_cons (wpAny_Name (wpAny_loadName_local hk hfl hns₃ mf ?_) hdb)
  refine Calls.spliced_nil ⟨hu, ?_⟩
  refine wpAny_call (codeAny_of_tree ?_)
  show wpAny _ _ (callAny (.ref h₂.objs.size) ⟨[v], []⟩) _ _ _
  simp only [callAny]
  refine wpAny_bind (wpAny_load hu ?_)
  have hmw : (Value.type "method-wrapper" == Value.type "method" || Value.type "method-wrapper" == Value.type "builtin_function_or_method" || Value.type "method-wrapper" == Value.type "method-wrapper") = true := by decide
  simp only [kxs_mw, hmw, if_true]
  refine KFB.if_so (by decide) ?_
  refine wpAny_bind (check_bound_init F.excBase_ValueError.toExcCallFacts (X₃ _ _ hC) hx₃ rfl ?_)
  refine wpAny_bind (wpAny_pure (wpAny_pure ?_))
  refine ⟨plainId_quiet F.excBase_ValueError.init.plain _, codeAny_builtin F.excBase_ValueError.initEntry ?_⟩
  refine exc_init_tree (cls := .ref C) (t0 := t0) (dv := none) (c2 := .none) (c3 := .none) (b4 := .bool false) hx₃ (one_fits v) fun h₄ k₄ hx₄ ht₄ => ?_
  have X₄ : K.In h₄ := fun a o e => k₄ a o (fun z => by rw [z, hnx] at e; cases e) (X₃ a o e)
  have hns₄ : h₄.Ns hp0.objs.size (fun y => List.lookup y [(f, v), (("self" : Str), .ref x)]) := by
    obtain ⟨oL, es, ep, hL, r⟩ := hns₃
    exact ⟨oL, es, ep, k₄ _ _ hxL hL, r⟩
  have ms : List.lookup ("self" : Str) [(f, v), (("self" : Str), .ref x)] = some (.ref x) := by
    have e1 : (("self" : Str) == f) = false := by simpa using fun z => hne z.symm
    simp [List.lookup, e1]
  refine wpAt_of_wpAny (wpAny_execs_cons (plainObj_wpAny_Assign_Attribute ?_ (hsw _ rfl)))
  refine wpAny_Name (wpAny_loadName_local hk hfl hns₄ mf ?_) hdb
  refine wpAny_Name (wpAny_loadName_local hk hself hns₄ ms ?_) (by decide)
  refine set_plain X₄ (ox := excO C (h₂.push (kxs_mw "ValueError.__init__" x)).objs.size) (od := none) ⟨hx₄, rfl, rfl, trivial⟩ T.sa ?_
  refine exc_osa X₄ hx₄ hcl (show refsVE (.ref C :: bm) = true from hbm) rfl T.noF (fun h₅ tk₅ dx k₅ dn dne hx₅ hn₅ => ?_)
  have lt1 : hp0.objs.size < h₁.objs.size := hns.lt
  have lt2 : hp0.objs.size ≤ dx := by
    have a : hp0.objs.size < h₄.objs.size := hns₄.lt
    exact Nat.le_of_lt (Nat.lt_of_lt_of_le a dn)
  refine wpAny_execs_nil (hq h₅ _ dx _ ⟨fun b o hb e => k₅ b o hb (k₄ b o hb (kk b o (k b o e))), hx₅, lt2, dne, hn₅⟩)
/-- a made error: at e, its dict at d -/
structure SupMade (h h' : Heap) (e C d : Addr) (f : Str) (v : Value) : Prop where
  keep : ∀ b o, h.get? b = some o → h'.get? b = some o
  new : h.objs.size ≤ e
  obj : ∃ t1, h'.get? e = some { cls := .ref C, dict := some d, data := .fields #[.ref t1, .none, .none, .none, .bool false, .none] }
  dbig : h.objs.size ≤ d
  dne : d ≠ e
  ns : h'.Ns1 d (fun y => if y = f then some v else none)
theorem sup_made (T : SupT prog K mg C fI f) {v : Value} (X : K.In s.heap) (hlim : s.heap.NoLimit) (hG : s.heap.Ns mainGlobals mg) (hB : s.heap.Ns builtinsNs mb) (hb : mb "super" = some (.type "super")) (hroom : A.depth + 1 < recursionLimit)
    (hq : ∀ h' tk e d, SupMade s.heap h' e C d f v → R (.ok (.ret (.ref e))) { s with heap := h', toks := tk }) :
    codeAny (model prog w) A (.call (.ref C) ⟨[v], []⟩) R s := by
  obtain ⟨nm, q, N, bs, bm, sn, sub, ab, col, dd, k0, k1, k2, k3, k5, hC, hbm⟩ := T.cls
  obtain ⟨hp, g, dr, tk, os⟩ := s
  have k : ∀ b o, hp.get? b = some o → ((hp.push (kdv_tup [v])).push (excO C hp.objs.size)).get? b = some o := fun b o e => Heap.get?_push_of_some _ (Heap.get?_push_of_some _ e)
  have hget : ((hp.push (kdv_tup [v])).push (excO C hp.objs.size)).get? (hp.objs.size + 1) = some (excO C hp.objs.size) := by heap_get
  have hnx : K.lookup (hp.objs.size + 1) = none := by
    cases e : K.lookup (hp.objs.size + 1) with
    | none => rfl
    | some o =>
      have z : hp.get? (hp.objs.size + 1) = some o := X _ _ e
      exact absurd (Nat.lt_of_succ_lt (Heap.lt_size z)) (Nat.lt_irrefl _)
  refine call_own F.excBase_ValueError (fun X => refsVE_contains X bm hbm) (X _ _ hC) (looks_findIn X T.iC) (fun self => bind_fn X self T.tI) (one_fits v) ?_
  refine sup_init (s := ⟨(hp.push (kdv_tup [v])).push (excO C hp.objs.size), g, dr, tk, os⟩) T (X.keeps k) (hlim.keeps k) (hG.keeps k) (hB.keeps k) hb hget hnx ?_ fun h' tk' dx t1 ⟨k', hx, dn, dne, hns⟩ => ?_
  · show A.depth + 1 < recursionLimit
    exact hroom
  · have old : ∀ b o, hp.get? b = some o → h'.get? b = some o := fun b o e => k' b o (Nat.ne_of_lt (Nat.lt_succ_of_lt (Heap.lt_size e))) (k b o e)
    have z : hp.objs.size + 1 + 1 ≤ dx := by
      first
        | (simpa only [Heap.size_push] using dn)
        | exact dn
        | (have q := dn; rw [Heap.size_push, Heap.size_push] at q; exact q)
    exact ⟨rfl, hq h' tk' (hp.objs.size + 1) dx ⟨old, Nat.le_succ _, ⟨t1, hx⟩, Nat.le_trans (Nat.le_trans (Nat.le_succ _) (Nat.le_succ _)) z, dne, hns⟩⟩
end
section
open L2
variable {X : Cx} {C fI : Addr} {f x : Str}
theorem relO_one {v : V} {u : Value} (r : RelV v u) (y : Str) : RelO (List.lookup y [(f, v)]) (if y = f then some u else none) := by
  by_cases h : y = f
  · subst h
    rw [if_pos rfl, show List.lookup y [(y, v)] = some v by simp [List.lookup]]
    exact r
  · have e : (y == f) = false := by simpa using h
    rw [if_neg h, show List.lookup y [(f, v)] = none by simp [List.lookup, e]]
    trivial
/-- x(e), made to be raised -/
def tMkS (C : Addr) (f : Str) (ta : TA) : L2.St → Hp → XK → Prop := fun σ H Q => ta σ H fun vs H1 => ∃ v, vs = [v] ∧ ∀ d, H1 d = none → Q (.ref C) (some d) (upd H1 d (.xd [(f, v)]))
theorem pmk_sup {a : Expr} {ta : TA} {p pos : Pos} {k : Nat} (T : SupT X.prog X.K X.mg C fI f) (gC : X.mg x = some (.ref C)) (hr : Room k X.A) (ha : PA X [a] ta) (hg : Gl X x) (hd : (x == ("__debug__" : Str)) = false := by decide)
    (he : starEach (a :: []) X.env = (false, eval a X.env) :: starEach [] X.env := by rfl) (hpl : (backTo pos (starEach [] X.env)).any (·.1) = false := by rfl) :
    PMk X (.Call (.Name x p) [a] [] pos) (tMkS C f ta) := by
  intro pins s σ H Q I h
  refine wpAny_Call_Name_kw (ld_glob I hg gC ?_ hd)
  refine PySem.W.callWith_K (h₀ := X.base) I.ok.mod.kin T.kC (thn (ha.run pos pins s σ H _ I h) fun us s1 hh => ?_) he hpl
  obtain ⟨vs, H1, I1, r1, v, ev, q1⟩ := hh
  subst ev
  refine ⟨I1.kIn, ?_⟩
  cases r1 with
  | cons rv rn =>
    rename_i v' us'
    cases rn
    show wpAny _ _ (call (.ref C) [v']) _ _ _
    have hlim := I1.nolimit
    obtain ⟨mb, hb1, hb2⟩ := I1.mod.blt
    have hG := I1.mod.glob.keeps I1.bk
    have hB := hb1.keeps I1.bk
    have hs : mb "super" = some (.type "super") := (hb2 _ (by decide)).trans PyProof.Rows.Boot.«super»
    obtain ⟨hp, g, dr, tk, os⟩ := s1
    refine wpAny_call (sup_made T I1.kIn hlim hG hB hs (by have := hr.dp; omega) fun h' tk' e d M => ?_)
    show MkP X pins σ Q (.ref e) ⟨h', g, dr, tk', os⟩
    obtain ⟨t1, hoe⟩ := M.obj
    have hns := M.ns
    obtain ⟨G', g1, g2⟩ := restrict h' fun b => decide (b ≠ e)
    have gk : ∀ b, b ≠ e → G'.get? b = h'.get? b := fun b hb => g1 b (decide_eq_true hb)
    have ge : G'.get? e = none := g2 e (by simp)
    have old : ∀ b o, hp.get? b = some o → G'.get? b = some o := fun b o q => (gk b (Nat.ne_of_lt (Nat.lt_of_lt_of_le (Heap.lt_size q) M.new))).trans (M.keep b o q)
    have ob : ObjOk X.prog X.w (upd H1 d (.xd [(f, v)])) G' d (.xd [(f, v)]) := ⟨_, hns.at (fun o q => (gk d M.dne).trans q), fun y => relO_one rv y⟩
    have J : Inv X pins σ (upd H1 d (.xd [(f, v)])) ⟨G', g, dr, tk', os⟩ := I1.laid (t' := tk') old M.dbig ob
    refine ⟨e, _, _, ⟨G', g, dr, tk', os⟩, _, .ref C, some d, rfl, J, fun b o q => ?_, ge, hoe, ⟨rfl, rfl⟩, rfl, rfl, ?_, rfl, I1.bare, raises_own T.exC T.tyC, q1 d (I1.hok.fresh M.dbig)⟩
    · by_cases hb : b = e
      · have q' : G'.get? b = some o := q
        rw [hb, ge] at q'; cases q'
      · exact (gk b hb).symm.trans q
    · rw [upd_ne (Ne.symm M.dne)]
      exact I1.hok.fresh M.new
/-- raise x(e) -/
def tRaiseS (C : Addr) (f : Str) (W : WX) (ta : TA) : TS := fun _ σ H => tMkS C f ta σ H fun cls d H' => W cls d σ H'
theorem ps_raiseS {a : Expr} {ta : TA} {W : WX} {p pos pos2 : Pos} {k : Nat} (hc : X.calm = true) (T : SupT X.prog X.K X.mg C fI f) (gC : X.mg x = some (.ref C)) (hr : Room k X.A) (tk : Takes X W) (ha : PA X [a] ta) (hg : Gl X x := by rfl) (hd : (x == ("__debug__" : Str)) = false := by decide)
    (he : starEach (a :: []) X.env = (false, eval a X.env) :: starEach [] X.env := by rfl) (hpl : (backTo pos (starEach [] X.env)).any (·.1) = false := by rfl) :
    PS X (.Raise (some (.Call (.Name x p) [a] [] pos)) none pos2) (tRaiseS C f W ta) := ps_raise hc tk (pmk_sup T gC hr ha hg hd he hpl)
end
end Pb
namespace Pb
open PySem PySem.Spec PyProof.Rows L2

/-! ### the end of a row whose defs make lambdas: cs tells the makers' code objects and their tables -/
section
variable {P : Program} {w : World} {K : PySem.W.Frag} {mg mb : Str → Option Value} {CX : CXT} {k : Nat} {fa a : Addr} {fd : FuncData} {x : Str} {sp : Sp} {s1 : Shared} {vs : List Value} {ns : List Int} {cs : List (Addr × Addr)}
abbrev tabO : Obj := { cls := .none, data := .fields #[] }
def isTab (cs : List (Addr × Addr)) (b : Addr) : Bool := cs.any fun p => p.2 == b
theorem isTab_of {p : Addr × Addr} (h : p ∈ cs) : isTab cs p.2 = true := List.any_eq_true.mpr ⟨p, h, by simp⟩
theorem isTab_ex {b : Addr} (h : isTab cs b = true) : ∃ p ∈ cs, p.2 = b := by
  obtain ⟨p, hp, e⟩ := List.any_eq_true.mp h
  exact ⟨p, hp, by simpa using e⟩
structure LawT (K : PySem.W.Frag) (mg : Str → Option Value) (cs : List (Addr × Addr)) (h : Heap) : Prop where
  tab : ∀ p ∈ cs, h.get? p.2 = some tabO
  off : ∀ p ∈ cs, K.lookup p.2 = none
  hd : ∀ p ∈ cs, PySem.W.CodeHd h p.1 p.2
  bm : ∃ (bm : Addr) (ob : Obj), mg "__builtins__" = some (.ref bm) ∧ bm ≠ builtinsNs ∧ h.get? bm = some ob ∧ ob.cls = .type "module" ∧ ob.dict = some builtinsNs ∧ ob.data = .plain
theorem lawT_from {H : Hp} (F : ∀ base : Heap, K.In base → base.Ns mainGlobals mg → (∀ p ∈ cs, LamX.TabB base mg p.1 p.2) → FnG true P w K mg base CX k fa fd [x] sp) (hbind : ∀ (s : Shared) (u : Value), BindsTo s fd ⟨[u], []⟩ [(x, u)])
    (L : LawT K mg cs s1.heap) (inK : K.In s1.heap) (nsG : s1.heap.Ns mainGlobals mg) (nsB : s1.heap.Ns builtinsNs mb) (bb : ∀ x : Str, x ≠ "__name__" → mb x = bootBuiltins x) (lim : s1.heap.NoLimit) (g0 : s1.gens = #[])
    (hr : RoomG true k callerA) (only : ∀ b, H b = none ∨ (isTab cs b = true ∧ H b = some (.tbl #[])) ∨ (b = a ∧ ∃ o xs, H b = some (.frz o (.lst xs)))) (ok : HOk P w H s1.heap) (scrK : H a ≠ none → K.lookup a = none)
    (lst : s1.heap.get? a = some { cls := .type "list", data := .seq vs.toArray }) (pr : sp [.ref a] H (fun v _ => v = .bl true) fun _ _ _ => False) (noX : ∀ H e s', CX [] H s1 (fun _ _ _ => False) e s' → False) :
    codeAny (model P w) callerA (.call (.ref fa) ⟨[.ref a], []⟩) (Good s1) s1 := by
  -- an object that is neither the script's list nor an empty table is not tracked
  have plain : ∀ (b : Addr) (ob : Obj), s1.heap.get? b = some ob → (∀ ys n, ob.data ≠ .seq ys n) → ob.data ≠ .fields #[] → H b = none := by
    intro b ob e d1 d2
    rcases only b with z | ⟨z, _⟩ | ⟨z, _⟩
    · exact z
    · obtain ⟨p, hp, q⟩ := isTab_ex z
      rw [← q, L.tab p hp] at e
      cases e
      exact absurd rfl d2
    · subst z
      rw [lst] at e
      cases e
      exact absurd rfl (d1 _ _)
  have see : ∀ (b : Addr) (ob : Obj), s1.heap.get? b = some ob → (∀ ys n, ob.data ≠ .seq ys n) → ob.data ≠ .fields #[] → (hidT s1.heap H).get? b = some ob := fun b ob e d1 d2 => hidT_get e (plain b ob e d1 d2)
  have ns2 : ∀ (b : Addr) (m : Str → Option Value), s1.heap.Ns b m → (hidT s1.heap H).Ns b m := by
    rintro b m ⟨ob, es, ep, e, d, r⟩
    exact ⟨ob, es, ep, see b ob e (fun ys n z => by rw [d] at z; cases z) (fun z => by rw [d] at z; cases z), d, r⟩
  have inB : K.In (hidT s1.heap H) := by
    intro b ob e
    refine hidT_get (inK b ob e) ?_
    rcases only b with z | ⟨z, _⟩ | ⟨z, o, xs, q⟩
    · exact z
    · obtain ⟨p, hp, q⟩ := isTab_ex z
      rw [← q, L.off p hp] at e
      cases e
    · subst z
      rw [scrK (by rw [q]; simp)] at e
      cases e
  have tb : ∀ p ∈ cs, LamX.TabB (hidT s1.heap H) mg p.1 p.2 := by
    intro p hp
    have hT := L.tab p hp
    obtain ⟨bm, ob, b1, b2, b3, b4, b5, b6⟩ := L.bm
    have n1 : bm ≠ mainGlobals := by
      rintro rfl
      obtain ⟨o, es, ep, e, d, _⟩ := nsG
      rw [e] at b3
      cases b3
      rw [d] at b6
      cases b6
    have n2 : bm ≠ p.2 := by
      intro z
      rw [z, hT] at b3
      cases b3
      cases b6
    constructor
    · obtain ⟨o, us, file, tf, flags, tg, inF, text, tt, e1, r1, r2, r3, r⟩ := L.hd p hp
      refine ⟨o, us, file, tf, flags, tg, inF, text, tt, see _ _ e1 (fun ys n z => by rw [r2] at z; cases z) (fun z => ?_), r1, r2, r3, r⟩
      rw [r2] at z
      cases z
      simp at r3
    · exact ⟨bm, ob, b1, b2, n1, n2, see _ _ b3 (fun ys n z => by rw [b6] at z; cases z) (fun z => by rw [b6] at z; cases z), b4, b5, b6⟩
    · intro z
      obtain ⟨o, es, ep, e, d, _⟩ := nsG
      rw [z, hT] at e
      cases e
      cases d
  obtain ⟨mc, l1, l2⟩ := lim
  have md : Mod K mg (hidT s1.heap H) := ⟨inB, ns2 _ _ nsG, ⟨mb, ns2 _ _ nsB, bb⟩, mc, ns2 _ _ l1, l2⟩
  have ev : Env0 P w K mg (hidT s1.heap H) callerA [] s1 H := {
    frames := rfl
    mod := md
    bs := fun b ob e => of_hidT e
    bsz := Nat.le_of_eq (hidT_size _ _)
    funs := trivial
    frf := fun b hb => by
      have z : b ∈ ([] : List Addr) := hb
      simp at z
    hok := ok
    bare := .of_eq g0 }
  have run := (F _ inB (ns2 _ _ nsG) tb).run callerA [] s1 H ⟨[.ref a], []⟩ [.ref a] [.ref a] _ _ hr ev (hbind s1 (.ref a)) (.cons rfl .nil) pr
  refine codeAny_mono run ?_
  intro r s' h
  cases r with
  | error e => exact (noX H e s' h).elim
  | ok fl =>
    cases fl with
    | ret u =>
      obtain ⟨v, H', eo, br, un, ok', rel, q⟩ := h
      have q1 : v = .bl true := q
      subst q1
      have q2 : u = Value.bool true := rel
      subst q2
      have stays : ∀ b ob, s1.heap.get? b = some ob → s'.heap.get? b = some ob ∨ (isTab cs b = true ∧ ∃ more : Array Value, s'.heap.get? b = some { cls := .none, data := .fields more }) := by
        intro b ob e
        rcases only b with z | ⟨z, zt⟩ | ⟨_, o2, xs, z⟩
        · refine .inl (un.keep b ob e z (fun y => ?_) (by simp))
          have y' : b ∈ ([] : List Addr) := y
          simp at y'
        · obtain ⟨more, t⟩ := un.tbls b #[] zt
          exact .inr ⟨z, _, ok' b _ t⟩
        · obtain ⟨e1, _⟩ := ok b _ z
          obtain ⟨e2, _⟩ := ok' b _ (un.frzs b o2 _ z)
          rw [e] at e1
          cases e1
          exact .inl e2
      refine ⟨rfl, ⟨fun b ob e => ?_, fun b ob e => ?_⟩, eo, br⟩
      · rcases stays b ob e with z | ⟨z, more, t⟩
        · exact .inl z
        · obtain ⟨p, hp, q⟩ := isTab_ex z
          subst q
          have hT := L.tab p hp
          rw [hT] at e
          cases e
          exact .inr (.inl ⟨((L.hd p hp).tab hT).isCodeTable, rfl, #[], more, rfl, by rw [Array.empty_append]; exact t⟩)
      · rcases stays b ob e with z | ⟨_, more, t⟩
        · exact ⟨_, z⟩
        · exact ⟨_, t⟩
    | next => exact h.elim
    | brk => exact h.elim
    | cont => exact h.elim
/-- the script's list, if it is tracked, and the tables -/
def lawH (cs : List (Addr × Addr)) (a : Addr) (O : Option HO) : Hp := fun b => if isTab cs b = true then some (.tbl #[]) else if b = a then O else none
theorem lawT_go (F : ∀ base : Heap, K.In base → base.Ns mainGlobals mg → (∀ p ∈ cs, LamX.TabB base mg p.1 p.2) → FnG true P w K mg base CX k fa fd [x] sp) (hbind : ∀ (s : Shared) (u : Value), BindsTo s fd ⟨[u], []⟩ [(x, u)])
    (L : LawT K mg cs s1.heap) (inK : K.In s1.heap) (nsG : s1.heap.Ns mainGlobals mg) (nsB : s1.heap.Ns builtinsNs mb) (bb : ∀ x : Str, x ≠ "__name__" → mb x = bootBuiltins x) (lim : s1.heap.NoLimit) (g0 : s1.gens = #[])
    (hr : RoomG true k callerA) (lst : s1.heap.get? a = some { cls := .type "list", data := .seq vs.toArray }) (its : IntsAre vs ns) (len : ns.length ≤ sizeLine)
    (pr : ∀ H : Hp, (∀ p ∈ cs, H p.2 = some (.tbl #[])) → SqL K H a (ns.map V.int) → sp [.ref a] H (fun v _ => v = .bl true) fun _ _ _ => False) (noX : ∀ H e s', CX [] H s1 (fun _ _ _ => False) e s' → False) :
    codeAny (model P w) callerA (.call (.ref fa) ⟨[.ref a], []⟩) (Good s1) s1 := by
  have rv := vals_ints its
  have na : isTab cs a = false := by
    cases e : isTab cs a with
    | false => rfl
    | true =>
      obtain ⟨p, hp, q⟩ := isTab_ex e
      have z := L.tab p hp
      rw [q, lst] at z
      cases z
  have tabs : ∀ O, ∀ p ∈ cs, lawH cs a O p.2 = some (.tbl #[]) := fun O p hp => if_pos (isTab_of hp)
  have atA : ∀ O, lawH cs a O a = O := fun O => by
    unfold lawH
    rw [if_neg (by rw [na]; decide), if_pos rfl]
  have rest : ∀ O b, isTab cs b = false → b ≠ a → lawH cs a O b = none := fun O b h1 h2 => by
    unfold lawH
    rw [if_neg (by rw [h1]; decide), if_neg h2]
  have oks : ∀ O, (∀ u, O = some u → ObjOk P w (lawH cs a O) s1.heap a u) → HOk P w (lawH cs a O) s1.heap := fun O hO b u z => by
    cases e : isTab cs b with
    | true =>
      have z' : some (HO.tbl #[]) = some u := (if_pos e).symm.trans z
      cases z'
      obtain ⟨p, hp, q⟩ := isTab_ex e
      rw [← q]
      exact L.tab p hp
    | false =>
      by_cases hb : b = a
      · subst hb
        rw [atA] at z
        exact hO u z
      · rw [rest O b e hb] at z
        cases z
  cases hk : K.lookup a with
  | some ob =>
    have e := inK a ob hk
    rw [lst] at e
    cases e
    refine lawT_from (H := lawH cs a none) F hbind L inK nsG nsB bb lim g0 hr (fun b => ?_) (oks none fun u z => by cases z) (fun z => absurd (atA none) z) lst (pr _ (tabs none) ?_) noX
    · cases e : isTab cs b with
      | true => exact .inr (.inl ⟨rfl, if_pos e⟩)
      | false =>
        by_cases hb : b = a
        · subst hb
          exact .inl (atA none)
        · exact .inl (rest none b e hb)
    · right
      refine ⟨_, vs.toArray, _, hk, rfl, rfl, rfl, ?_, ?_⟩
      · rw [List.size_toArray, its.length]
        exact len
      · simpa using rv
  | none =>
    let O : HO := .frz { cls := .type "list", data := .seq vs.toArray } (.lst (ns.map V.int))
    refine lawT_from (H := lawH cs a (some O)) F hbind L inK nsG nsB bb lim g0 hr (fun b => ?_) (oks _ fun u z => ?_) (fun _ => hk) lst (pr _ (tabs _) (.inl (.inr ⟨_, atA _⟩))) noX
    · cases e : isTab cs b with
      | true => exact .inr (.inl ⟨rfl, if_pos e⟩)
      | false =>
        by_cases hb : b = a
        · subst hb
          exact .inr (.inr ⟨rfl, _, _, atA _⟩)
        · exact .inl (rest _ b e hb)
    · cases z
      exact ⟨lst, by rw [List.length_map]; exact len, vs, _, rv, lst⟩
end
theorem walkGT {l : PySem.W.OpenLaw} {n k : Nat} {q : Program} {loose : List Str} {XP : (Str → Option Value) → Heap → Prop} {YP : World → Heap → Prop} {d : DefRec} {CX : World → CXT} {x : Str}
    (hn : l.most = some n) (hn2 : n ≤ sizeLine) (hdf : d.params.defaults = []) (hr : RoomG true k callerA)
    (F : ∀ (w : World) (mg : Str → Option Value) (fa : Addr) (h : Heap), YP w h → h.Ns mainGlobals mg → mg d.name = some (.ref fa) →
      ∃ (K : PySem.W.Frag) (fd : FuncData) (sp : Sp) (cs : List (Addr × Addr)), K.In h ∧ (∀ p ∈ cs, h.get? p.2 = some tabO) ∧ (∀ p ∈ cs, K.lookup p.2 = none) ∧ (∀ p ∈ cs, PySem.W.CodeHd h p.1 p.2) ∧ (∀ (s : Shared) (u : Value), BindsTo s fd ⟨[u], []⟩ [(x, u)]) ∧
        (∀ (H : Hp) (a : Addr) (ns : List Int), ns.length ≤ n → (∀ p ∈ cs, H p.2 = some (.tbl #[])) → SqL K H a (ns.map V.int) → sp [.ref a] H (fun v _ => v = .bl true) fun _ _ _ => False) ∧
        ∀ base : Heap, K.In base → base.Ns mainGlobals mg → (∀ p ∈ cs, LamX.TabB base mg p.1 p.2) → FnG true l.prog w K mg base (CX w) k fa fd [x] sp)
    (noX : ∀ (w : World) (H : Hp) (s : Shared) (e : Value) (s' : Shared), CX w [] H s (fun _ _ _ => False) e s' → False) :
    PySem.W.WalkO q loose XP YP l.row.toRowW d [] (fun f vs => PySem.call f vs) := by
  refine Att.attach_call hn hdf ?_
  intro w s0 s1 mg mb fa o pm cd doc a vs ns G Y ho hd hcd hmg hobj hints hlen hg
  obtain ⟨K, fd, sp, cs, KX, t1, t2, t3, hb, hsp, hF⟩ := F w mg fa _ Y G.T.g hmg
  exact lawT_go hF hb ⟨t1, t2, t3, G.T.bmain⟩ KX G.T.g G.T.b G.T.builtins G.T.nolimit hg hr hobj hints (Nat.le_trans hlen hn2) (fun H hT hS => hsp H a ns hlen hT hS) fun H e s' => noX w H s1 e s'
end Pb
namespace Pb
open PySem PySem.Spec PyProof.Rows L2
open PySem.W (Frag)

/-! ### own errors: what the head looks at -/
def clsB (K : Frag) (C : Addr) : Bool := match K.lookup C with
  | some ⟨.type t, _, .cls cd, sl⟩ => t == "type" && ((match cd.mro with
    | m :: bm => m == .ref C && PySem.HandSPX.refsVE bm
    | [] => false) && (cd.hasDict && (!cd.hasDel && (match sl.toList with
    | [_, _, _, _, some (.builtin n), _] => n == "ValueError.__new__"
    | _ => false))))
  | _ => false
theorem clsB_ok {K : Frag} {C : Addr} (h : clsB K C = true) : ∃ nm q N bs bm sn sub ab col dd k0 k1 k2 k3 k5, K.lookup C = some (excClassObj nm q C N bs bm true sn sub ab col dd k0 k1 k2 k3 k5 "ValueError.__new__") ∧ PySem.HandSPX.refsVE bm = true := by
  unfold clsB at h
  split at h
  · rename_i t dd cd sl ho
    obtain ⟨h1, h⟩ := He.ba h
    obtain ⟨h2, h⟩ := He.ba h
    obtain ⟨h3, h⟩ := He.ba h
    obtain ⟨h4, h5⟩ := He.ba h
    split at h2
    · rename_i m bm hm
      obtain ⟨h6, h7⟩ := He.ba h2
      split at h5
      · rename_i k0 k1 k2 k3 n k5 hs
        obtain ⟨nm, bs, mro, ns, qn, hd, sn, sub, ab, col, del⟩ := cd
        dsimp only at hm h3 h4
        have e1 : t = "type" := by simpa using h1
        have e2 : m = .ref C := by simpa using h6
        have e3 : n = "ValueError.__new__" := by simpa using h5
        have e4 : del = false := by simpa using h4
        have e5 : sl = #[k0, k1, k2, k3, some (.builtin n), k5] := by
          obtain ⟨l⟩ := sl
          simp only at hs
          rw [hs]
        subst e1 e2 e3 e4 e5 hm h3
        exact ⟨nm, qn, ns, bs, bm, sn, sub, ab, col, dd, k0, k1, k2, k3, k5, ho, h7⟩
      · cases h5
    · cases h2
  · cases h
/-- x's __init__ -/
abbrev SuW : Type := Option (Str × Str × Arguments × FuncBody × Scope × Addr × List Str × Addr)
def suW (K : Frag) (x : Str) : SuW := match K.lookup (He.ma K (He.ga K x) "__init__") with
  | some ⟨_, _, .func fd, _⟩ => some (fd.name, fd.qualname, fd.params, fd.body, fd.scope, fd.globals, fd.closure.map (·.1), fd.builtins)
  | _ => none
def suV (qual : Str) (st : Stmt) : SuW := some ("__init__", qual, defArgs st, .stmts (defBody st), defScope st, mainGlobals, ["__class__"], builtinsNs)
def suB (file : Str) (K : Frag) (x f : Str) : Bool :=
  clsB K (He.ga K x) && (He.eqO (PySem.W.findIn K (.ref (He.ga K x)) "__setattr__") (some (some (.builtin "object.__setattr__"))) && (He.eqO (PySem.W.findIn K (.ref (He.ga K x)) f) (some none) &&
  (He.eqO (PySem.W.findIn K (.ref (He.ga K x)) "__init__") (some (some (.ref (He.ma K (He.ga K x) "__init__")))) && (decide (PySem.W.typeIn K (.ref (He.ma K (He.ga K x) "__init__")) = some (.type "function")) && (PySem.W.keepIn K (.ref (He.ga K x)) &&
  (decide (PySem.W.subIn K (.ref (He.ga K x)) (.type "BaseException") = some true) && (decide (PySem.W.subIn K (.ref (He.ga K x)) (.type "ValueError") = some true) && (decide (PySem.W.typeIn K (.ref (He.ga K x)) = some (.type "type")) &&
  (decide (PySem.W.mroIn K (He.ga K x) (.ref (He.ga K x)) = some true) && (He.eqO (PySem.W.ks_superIn K (He.ga K x) (He.ga K x) "__init__") (some (some (.builtin "ValueError.__init__"))) && (He.eqO (PySem.W.nsIn K cStatics "thirdparty.any") (some none) &&
  (match K.lookup (He.ma K (He.ga K x) "__init__") with
  | some ⟨_, _, .func fd, _⟩ => (match fd.defaults with
    | .none => true
    | _ => false) && ((match fd.code with
    | .ref cda => PySem.W.codeIn K (.ref cda) fd.qualname && (match K.lookup cda with
      | some ⟨_, _, .fields vs, _⟩ => (match (vs[2]? : Option Value) with
        | some (Value.str z _) => file == z
        | _ => false)
      | _ => false)
    | _ => false) && (match fd.closure with
    | [(_, cc)] => (match K.lookup cc with
      | some ⟨_, _, .cell (some (.ref D)), _⟩ => D == He.ga K x
      | _ => false)
    | _ => false))
  | _ => false))))))))))))
/-- what is read off the text of an __init__ with one field -/
structure SuTx (st : Stmt) (f : Str) : Prop where
  body : ∃ a1 a2 a3 a4 a5 a6 b1 b2 b3 b4 : Pos, defBody st = [.Expr (.Call (.Attribute (.Call (.Name "super" a1) [] [] a2) "__init__" a3) [.Name f a4] [] a5) a6, .Assign [.Attribute (.Name "self" b1) f b2] (.Name f b3) b4] ∧
    (∀ env : Env, env.scope = defScope st → ∃ pl : Sem Bool, eval (.Call (.Attribute (.Call (.Name "super" a1) [] [] a2) "__init__" a3) [.Name f a4] [] a5) env = (do
      let ov ← attributeBase (.Call (.Name "super" a1) [] [] a2) "__init__" env (eval (.Call (.Name "super" a1) [] [] a2) env)
      standAt a3.atName
      let (h, first) ← holding [ov] (getMethod ov "__init__" pl)
      callWith a5 h first (backTo a5 (starEach [.Name f a4] env)) [])) ∧
    (∀ env : Env, env.scope = defScope st → swapsWith (.Name f b3) (some (.Attribute (.Name "self" b1) f b2)) b4.line env = pure false)
  par : ∃ ar : Arg, ((defArgs st).posonlyargs ++ (defArgs st).args).head? = some ar ∧ ar.arg = "self"
  kind : (defScope st).kind = .function
  co : (defScope st).isCoroutine = false
  gen : (defScope st).isGenerator = false
  nc : ∀ x ∈ (defScope st).names, x.2 ≠ .cell
  n1 : (defScope st).names.lookup ("self" : Str) = some .local
  n2 : (defScope st).names.lookup f = some .local
  n3 : (defScope st).names.lookup ("__class__" : Str) = some .free
  n4 : (defScope st).names.lookup ("super" : Str) = some .globalImplicit
  ne : f ≠ "self"
  db : (f == ("__debug__" : Str)) = false
  bnd : ∀ (s : Shared) (qual : Str) (kV doc pm : Value) (an : Option Addr) (cda cc : Addr) (ct x v : Value), BindsTo s (PySem.W.ksFn "__init__" qual (defArgs st) (defBody st) (defScope st) .none kV doc pm an (.ref cda) ct cc) ⟨[x, v], []⟩ [("self", x), (f, v)]
theorem supT_of {P : Program} {K : Frag} {mg : Str → Option Value} {x f qual : Str} {st : Stmt} (B : suB P.main.file K x f = true) (W : suW K x = suV qual st) (Tx : SuTx st f) (noS : mg "super" = none) (top : (P.main.scope.names.lookup ("super" : Str)).isSome = false) :
    SupT P K mg (He.ga K x) (He.ma K (He.ga K x) "__init__") f := by
  unfold suB at B
  obtain ⟨h1, B⟩ := He.ba B
  obtain ⟨h2, B⟩ := He.ba B
  obtain ⟨h3, B⟩ := He.ba B
  obtain ⟨h4, B⟩ := He.ba B
  obtain ⟨h5, B⟩ := He.ba B
  obtain ⟨h6, B⟩ := He.ba B
  obtain ⟨h7, B⟩ := He.ba B
  obtain ⟨h8, B⟩ := He.ba B
  obtain ⟨h9, B⟩ := He.ba B
  obtain ⟨h10, B⟩ := He.ba B
  obtain ⟨h11, B⟩ := He.ba B
  obtain ⟨h12, B⟩ := He.ba B
  refine ⟨clsB_ok h1, He.eqO_ok h2, He.eqO_ok h3, He.eqO_ok h4, of_decide_eq_true h5, h6, of_decide_eq_true h7, of_decide_eq_true h8, of_decide_eq_true h9, of_decide_eq_true h10, He.eqO_ok h11, He.eqO_ok h12, noS, top, ?_⟩
  unfold suW suV at W
  split at B
  · rename_i oc od fd osl ho
    rw [ho] at W
    obtain ⟨m1, m2, m3, m4, m5, m6, m7, m8, m9, m10, m11, m12, m13, m14, m15⟩ := fd
    simp only [Option.some.injEq, Prod.mk.injEq] at W
    obtain ⟨e1, e2, e3, e4, e5, e6, e7, e8⟩ := W
    subst e1 e2 e3 e4 e5 e6 e8
    obtain ⟨B1, Br⟩ := He.ba B
    clear B
    obtain ⟨B2, B3⟩ := He.ba Br
    clear Br
    dsimp only at B1 B2 B3
    split at B1
    · split at B2
      · rename_i cda
        obtain ⟨C1, C2⟩ := He.ba B2
        split at C2
        · rename_i ccl cdd vs ccs hcode
          split at C2
          · rename_i z tf hvs
            split at B3
            · rename_i nm cc
              split at B3
              · rename_i cl cld D csl hcell
                have eD : D = He.ga K x := by simpa using B3
                subst eD
                have enm : nm = ("__class__" : Str) := by
                  have q : [nm] = [("__class__" : Str)] := e7
                  exact (List.cons.inj q).1
                subst enm
                obtain ⟨a1, a2, a3, a4, a5, a6, b1, b2, b3, b4, hb, hev, hsw⟩ := Tx.body
                obtain ⟨ar, hp, har⟩ := Tx.par
                have bnd := Tx.bnd
                rw [hb] at ho bnd
                exact ⟨oc, od, m2, defArgs st, defScope st, .none, m9, m10, m11, m12, cda, cc, m14, osl, a1, a2, a3, a4, a5, a6, b1, b2, b3, b4, ar, ccl, cdd, vs, ccs, z, tf, cl, cld, csl, ho, C1, hcode, hvs, C2, hcell, hp, har, Tx.kind, Tx.co, Tx.gen, Tx.nc, Tx.n1, Tx.n2, Tx.n3, Tx.n4, Tx.ne, Tx.db,
                  fun s x v => bnd s m2 m9 m10 m11 m12 cda cc m14 x v, hev, hsw⟩
              · cases B3
            · cases B3
          · cases C2
        · cases C2
      · cases B2
    · cases B1
  · cases B
/-! ### the Hook: defs, own errors, makers of lambdas, one Bool more -/
structure SaysU (fa : List He.Fa) (fn : List He.DefD) (su : List Str) (sv : List SuW) (tf : List He.Defn) (ex : Frag → Bool) (h : Heap) (K : Frag) : Prop where
  d : He.SaysD fa fn K
  s : su.map (suW K) = sv
  more : ex K = true
  hd : ∀ p ∈ tf, PySem.W.codeHdIn K (He.cT K p).1 (He.cT K p).2 = true
  out : ∀ p ∈ tf, K.lookup (He.cT K p).2 = none
  empty : ∀ p ∈ tf, h.get? (He.cT K p).2 = some tabO
abbrev AlU : Type := (He.AlD × List SuW) × Bool
def frU (n : Nat) (g : Addr → Option Obj) : Frag := He.frT g (He.asD g n ++ [cStatics, sysModules])
def obsU (n : Nat) (fa : List He.Fa) (fn : List He.DefD) (su : List Str) (tf : List He.Defn) (ex : Frag → Bool) (g : Addr → Option Obj) : AlU :=
  ((He.obsD fa fn (frU n g), su.map (suW (frU n g))), ex (frU n g) && He.tabsB g tf (frU n g))
def valU (fn : List He.DefD) (sv : List SuW) : AlU := ((He.valD fn, sv), true)
theorem saysU_of {n : Nat} {fa : List He.Fa} {fn : List He.DefD} {su : List Str} {sv : List SuW} {tf : List He.Defn} {ex : Frag → Bool} {h : Heap} (e : obsU n fa fn su tf ex h.get? = valU fn sv) : SaysU fa fn su sv tf ex h (frU n h.get?) := by
  have e1 : He.obsD fa fn (frU n h.get?) = He.valD fn := congrArg (fun z : AlU => z.1.1) e
  have e2 : su.map (suW (frU n h.get?)) = sv := congrArg (fun z : AlU => z.1.2) e
  have e3 : (ex (frU n h.get?) && He.tabsB h.get? tf (frU n h.get?)) = true := congrArg (fun z : AlU => z.2) e
  obtain ⟨h1, h2⟩ := He.ba e3
  have look : ∀ p ∈ tf, PySem.W.codeHdIn (frU n h.get?) (He.cT (frU n h.get?) p).1 (He.cT (frU n h.get?) p).2 = true ∧ ∃ o, h.get? (He.cT (frU n h.get?) p).2 = some o ∧ He.emptyTab o = true := by
    intro p hp
    obtain ⟨h3, h4⟩ := He.ba (List.all_eq_true.mp h2 p hp)
    refine ⟨h3, ?_⟩
    split at h4
    · rename_i o q
      exact ⟨o, q, h4⟩
    · cases h4
  refine ⟨e1, e2, h1, fun p hp => (look p hp).1, fun p hp => ?_, fun p hp => ?_⟩
  · obtain ⟨_, o, q, z⟩ := look p hp
    exact He.frT_none q z
  · obtain ⟨_, o, q, z⟩ := look p hp
    rw [q, He.emptyTab_eq z]
def hookU (n : Nat) (fa : List He.Fa) (fn : List He.DefD) (su : List Str) (sv : List SuW) (tf : List He.Defn) (ex : Frag → Bool) : PySem.W.Hook where
  α := AlU
  obs := fun s => obsU n fa fn su tf ex s.heap.get?
  val := fun _ => valU fn sv
  says := fun _ h => ∃ K : Frag, K.In h ∧ SaysU fa fn su sv tf ex h K
  of := fun _ _ e => ⟨_, He.frT_in, saysU_of e⟩
  keeps := fun _ _ _ ⟨K, hK, c⟩ k => ⟨K, PySem.W.Frag.In.keeps hK k, ⟨c.d, c.s, c.more, c.hd, c.out, fun p hp => k _ _ (c.empty p hp)⟩⟩
theorem obsU_eq {n : Nat} {fa : List He.Fa} {fn : List He.DefD} {su : List Str} {sv : List SuW} {tf : List He.Defn} {ex : Frag → Bool} {g : Addr → Option Obj} {s : Shared} (h : ∀ a, g a = s.heap.get? a) : obsU n fa fn su tf ex g = (hookU n fa fn su sv tf ex).obs s := by
  have e : g = s.heap.get? := funext h
  subst e
  rfl
theorem SaysU.sup {fa : List He.Fa} {fn : List He.DefD} {su : List Str} {sv : List SuW} {tf : List He.Defn} {ex : Frag → Bool} {h : Heap} {K : Frag} (c : SaysU fa fn su sv tf ex h K) (i : Nat) {x : Str} {v : SuW} (h1 : su[i]? = some x) (h2 : sv[i]? = some v) : suW K x = v := by
  have e := c.s
  rw [← e, List.getElem?_map, h1] at h2
  exact Option.some.inj h2
end Pb
namespace Pb
open PySem PySem.Spec PyProof.Rows L2

/-! ### try: .. except x as n: y = n / the rest, the error held in y -/
abbrev heldX (X : Cx) (a : Addr) (oe : Obj) : Cx := { X with pn := (a, oe) :: X.pn }
section
variable {X : Cx} {pins : List (Addr × Obj)} {σ : L2.St} {H : Hp} {s : Shared} {a : Addr} {oe : Obj}
theorem held_ok (ok : X.Ok) : (heldX X a oe).Ok := by
  obtain ⟨h1, h2, h3, h4, h5, h6, h7, h8, h9, h10, h11, h12, h13, h14, h15, h16, h17, h18⟩ := ok
  exact ⟨h1, h2, h3, h4, h5, h6, h7, h8, h9, h10, h11, h12, h13, h14, h15, h16, h17, h18⟩
theorem held_in {pn : List (Addr × Obj)} {b : Addr} (ok : X.Ok) (I : Inv (X.suite b ((a, oe) :: (X.pn ++ pins))) pn σ H s) : Inv (heldX X a oe) pins σ H s := by
  obtain ⟨_, h2, h3, h4, h5, h6, h7, h8, h9, h10, h11⟩ := I
  exact ⟨held_ok ok, h2, h3, h4, h5, h6, h7, h8, fun p hp => h9 p (List.mem_append_left _ hp), h10, h11⟩
theorem held_out (ok : X.Ok) (I : Inv (heldX X a oe) pins σ H s) : Inv X pins σ H s := by
  obtain ⟨_, h2, h3, h4, h5, h6, h7, h8, h9, h10, h11⟩ := I
  exact ⟨ok, h2, h3, h4, h5, h6, h7, h8, fun p hp => h9 p (List.mem_cons_of_mem _ hp), h10, h11⟩
end
/-- behind the try: with the error held, or without one -/
def SPk (X : Cx) (pins : List (Addr × Obj)) (D : Ends) (u : TS) (k : Addr → Value → Option Addr → TS) (f : Flow) (s' : Shared) : Prop :=
  match f with
  | .next => (∃ σ' H', Inv X pins σ' H' s' ∧ u D σ' H') ∨ ∃ a oe cls d σ' H', Zc cls d oe ∧ (∃ vs, oe.data = .fields vs) ∧ Inv (heldX X a oe) pins σ' H' s' ∧ k a cls d D σ' H'
  | f => SP X pins D f s'
/-- what is wished of an error that flies out of the body: i the slot of n, j of y -/
def wKeep (K : PySem.W.Frag) (c : Value) (i j : Nat) (k : Addr → Value → Option Addr → TS) (Wout : WX) (D : Ends) : WX := fun cls d σ H =>
  ∃ b, PySem.W.exmOne K cls c = some b ∧ (b = true → ∀ a, H a = none → k a cls d D (((σ.set i (some (.ref a))).set j (some (.ref a))).set i none) H) ∧ (b = false → Wout cls d σ H)
section
variable {X : Cx} {x n y : Str} {c : Value} {i j : Nat} {body rest : List Stmt} {np p1 p2 p3 pos pos' : Pos} {tb : WX → TS} {u : TS} {k : Addr → Value → Option Addr → TS} {Wout : WX}
theorem pss_keep (hs : X.stack = X.env :: X.outer) (hf : X.env.frame = some X.env.locals) (hN : X.N.Nodup) (hi : X.N[i]? = some n) (hj : X.N[j]? = some y) (hij : i ≠ j) (hln : X.env.kindOf n = some .local) (hly : X.env.kindOf y = some .local) (hc : Names X x c) (tk : Takes X Wout)
    (hdn : (n == ("__debug__" : Str)) = false) (hcn : (n == ("__classdict__" : Str)) = false) (hsw : swapsWith (.Name n p2) (some (.Name y p1)) p3.line X.env = pure false)
    (hb : ∀ (W : WX) (pn : List (Addr × Obj)) (xe : Value → Shared → Prop), Takes (X.tr pn xe) W → PassesOwn (model X.prog X.w) X.A X.env xe → PSs (X.tr pn xe) body (tb W))
    (hr : PSs X rest u) (hk : ∀ (a : Addr) (oe : Obj) (cls : Value) (d : Option Addr), Zc cls d oe → (∃ vs, oe.data = .fields vs) → PSs (heldX X a oe) rest (k a cls d)) :
    PSs X (.Try body [.ExceptHandler (some (.Name x np)) (some n) [.Assign [.Name y p1] (.Name n p2) p3] pos'] [] [] pos :: rest) (fun D σ H => tb (wKeep X.K c i j k Wout D) { D with nx := u D } σ H) := by
  constructor
  intro pins s σ H D I h
  have ok := I.ok
  refine wpAny_execs_cons (thn (Q := SPk X pins D u k) ?_ ?_)
  · have frm : X.A.frames = some (X.env :: X.outer) := ok.frames.trans (by rw [hs])
    refine wpAny_Try_except ?_
    refine wpAny_mono ((hb (wKeep X.K c i j k Wout D) (X.pn ++ pins) (fun e s₁ => wpAny (model X.prog X.w) X.A (noteFrame e X.env) (fun _ s₂ => wpAny (model X.prog X.w) X.A (setFlight e none) (fun _ s₃ =>
      wpAny (model X.prog X.w) X.A (handleBy e X.env [.ExceptHandler (some (.Name x np)) (some n) [.Assign [.Name y p1] (.Name n p2) p3] pos']) (SPk X pins D u k) X.xe s₃) X.xe s₂) X.xe s₁) ?_ PassesOwn.looking).run [] s σ H _ (I.toTry _) h) ?_ (fun _ _ z => z)
    · intro e' s' fly
      obtain ⟨a, B, sI, pins', σ', H', cls, d, rfl, J', nb, up, sky, na, os, ag, b, hb1, yes, no⟩ := fly
      have J : Inv X pins σ' H' sI := J'.ofTry ok
      rw [show (X.tr (X.pn ++ pins) _).stack = X.env :: X.outer from hs] at sky
      refine Sky.land Zc.steady frm hf sky fun g1 fl1 up1 => ?_
      have J1 : Inv X pins σ' H' { s' with heap := g1 } := J.landed nb fl1.1 (up.trans up1) os ag
      obtain ⟨o1, v1, at1, z1, d1⟩ := fl1.there
      have away : a ∉ frs (X.env :: X.outer) := by
        intro hm
        obtain ⟨_, o', e', nof⟩ := fl1.2.2.1.mem hm
        rw [at1] at e'
        cases e'
        exact nof _ d1
      have nL : a ≠ X.env.locals := fun z => away (List.mem_filterMap.mpr ⟨X.env, List.mem_cons_self, by rw [hf, z]⟩)
      have nF : a ∉ X.fs := by
        intro hm
        obtain ⟨e, he, q⟩ := List.mem_filterMap.mp hm
        exact away (List.mem_filterMap.mpr ⟨e, List.mem_cons_of_mem _ he, q⟩)
      have S1 := J1.suite at1 d1 na nL nF
      refine wpAny_handleBy_cons (codeAny_handlers_test ?_) (by intro q; cases q)
      have ty : PySem.W.Looks (model X.prog X.w) g1 (typeOf (.ref a)) cls := fun A Q E s k q => wpAny_typeOf_ref (k _ _ at1) (by rw [z1.1]; exact q)
      have mt := PySem.W.exm_one (M := model X.prog X.w) (J1.kIn) ty hb1
      have named : ∀ {Q : Value → Shared → Prop} {E : Value → Shared → Prop}, Q c { s' with heap := g1 } → wpAny (model X.prog X.w) (X.A.mark (some (.ref a))) (eval (.Name x np) X.env) Q E { s' with heap := g1 } := by
        intro Q E q
        obtain ⟨hg, hdbg, hm | ⟨hm, hv, hnn⟩⟩ := hc
        · exact ld_glob (X := X.suite a ((a, o1) :: (X.pn ++ pins))) S1 hg hm q hdbg
        · exact ld_blt (X := X.suite a ((a, o1) :: (X.pn ++ pins))) S1 hg hm hv q hnn hdbg
      refine named (mt.here ?_)
      cases b with
      | true =>
        refine codeAny_handlers_suite_as ?_
        refine HandSPX.lands_againZ fl1 fun g2 fl2 up2 => ?_
        have J2 : Inv X pins σ' H' { s' with heap := g2 } := J.landed nb fl2.1 ((up.trans up1).trans up2) os ag
        obtain ⟨o2, v2, at2, z2, d2⟩ := fl2.there
        have S2 := J2.suite at2 d2 na nL nF
        refine store_ok (X := X.suite a ((a, o2) :: (X.pn ++ pins))) (v := .ref a) S2 hN hi (.inl hln) rfl (fun s5 S5 => ?_) (.inr hln)
        have hlen : i < σ'.length := by
          rw [J.len]
          exact (List.getElem?_eq_some_iff.mp hi).1
        have put : PSs (X.suite a ((a, o2) :: (X.pn ++ pins))) [.Assign [.Name y p1] (.Name n p2) p3] (tAsg (tVar i) (gName j)) := pss_one (ps_asg (pe_var hi (.inl hln) hdn hcn) (pg_name hN hj (.inl hly) (hf := .inr hly)) hsw)
        refine wpAny_mono (put.run [] s5 _ H' { nx := fun σ6 H6 => σ6 = (σ'.set i (some (.ref a))).set j (some (.ref a)) ∧ H6 = H', rt := fun _ _ => False } S5 ?_) (fun f s6 q6 => ?_) (fun _ _ z => z.elim)
        · exact ⟨.ref a, List.getElem?_set_self hlen, rfl, rfl⟩
        cases f with
        | next =>
          obtain ⟨σ6, H6, S6, rfl, rfl⟩ := q6
          have R6 := held_in ok S6
          refine gone_ok (X := heldX X a o2) R6 hN hi hln fun s7 J7 => ?_
          exact .inr ⟨a, o2, cls, d, _, _, z2, ⟨_, d2⟩, J7, yes rfl a na⟩
        | brk =>
          obtain ⟨_, _, _, z⟩ := q6
          exact z.elim
        | cont =>
          obtain ⟨_, _, _, z⟩ := q6
          exact z.elim
        | ret w =>
          obtain ⟨_, _, _, _, _, z⟩ := q6
          exact z.elim
      | false =>
        show wpAny _ X.A (handleBy (.ref a) X.env []) _ _ _
        refine wpAny_handleBy_nil ?_
        obtain ⟨_, _, _, oe, vs, T, oT, ts', he, hz, hd, h1, _⟩ := id fl1
        unfold PySem.passOn
        refine wpAny_bind (wpAny_field he hd h1 ?_)
        rw [if_neg (show ¬ ((Value.ref T == Value.none) = true) from by simp)]
        have on : wpAny (model X.prog X.w) X.A (setFlight (.ref a) X.env.frame) (fun _ s4 => wpAny (model X.prog X.w) X.A (throw (.ref a) : Sem Flow) (SPk X pins D u k) X.xe s4) X.xe { s' with heap := g1 } := by
          rw [hf]
          refine HandSPX.setFlight_upZ fl1 fun h4 hh4 up4 => wpAny_throw (tk _ _ ?_)
          exact ⟨a, B, sI, pins, σ', H', cls, d, rfl, J, nb, (up.trans up1).trans up4, .inr (.inr (by rw [hs]; exact hh4)), na, os, ag, no rfl⟩
        first
          | exact wpAny_bind (wpAny_pure (wpAny_bind on))
          | exact wpAny_bind on
    · intro f s1 q
      cases f with
      | next =>
        obtain ⟨σ', H', J', q⟩ := q
        exact wpAny_execs_nil (.inl ⟨σ', H', J'.ofTry ok, q⟩)
      | brk =>
        obtain ⟨σ', H', J', q⟩ := q
        exact ⟨σ', H', J'.ofTry ok, q⟩
      | cont =>
        obtain ⟨σ', H', J', q⟩ := q
        exact ⟨σ', H', J'.ofTry ok, q⟩
      | ret v =>
        obtain ⟨v', σ', H', J', r, q⟩ := q
        exact ⟨v', σ', H', J'.ofTry ok, r, q⟩
  · intro f s1 q
    cases f with
    | next =>
      rcases q with ⟨σ', H', J, q⟩ | ⟨a, oe, cls, d, σ', H', hz, hv, J, q⟩
      · exact hr.run pins s1 σ' H' D J q
      · refine thn ((hk a oe cls d hz hv).run pins s1 σ' H' D J q) fun f s2 q2 => ?_
        cases f with
        | next =>
          obtain ⟨σ2, H2, J2, q2⟩ := q2
          exact ⟨σ2, H2, held_out ok J2, q2⟩
        | brk =>
          obtain ⟨σ2, H2, J2, q2⟩ := q2
          exact ⟨σ2, H2, held_out ok J2, q2⟩
        | cont =>
          obtain ⟨σ2, H2, J2, q2⟩ := q2
          exact ⟨σ2, H2, held_out ok J2, q2⟩
        | ret v =>
          obtain ⟨v2, σ2, H2, J2, r2, q2⟩ := q2
          exact ⟨v2, σ2, H2, held_out ok J2, r2, q2⟩
    | brk => exact q
    | cont => exact q
    | ret v => exact q
end
end Pb
namespace Pb
open PySem PySem.W PySem.Spec PySem.Calls PyProof.Rows
/-! ### isinstance of an error that has a dict -/
section
variable {prog : Program} {w : World} {A : Around} {E : Value → Shared → Prop} {s : Shared} {K : Frag} {x D : Addr} {ox : Obj} {od : Option Obj}
theorem found_class {C : Addr} {name : Str} {a g : Value} (h1 : (clsIn K C).isSome = true) (h2 : findIn K (.ref C) name = some (some a)) (h3 : specialIn K a "__get__" = some (some g)) (h4 : takesIn K a = some true) : findObj K C od name = some (.bind g a) := by
  obtain ⟨cd, e⟩ := Option.isSome_iff_exists.mp h1
  unfold findObj
  rw [e, Option.bind_some, h2, Option.bind_some]
  simp [h3, h4]
theorem class_of_err {Q : Option Value → Shared → Prop} (T : L2.ExcC K D) (KX : K.In s.heap) (J : InstAt s.heap x ox D od) (fin : Q (some (.ref D)) { s with toks := s.toks + 1 }) : wpAny (model prog w) A (getAttr? (.ref x) "__class__") Q E s := by
  have fo : findObj K D od "__class__" = some (.bind (.builtin "getset_descriptor.__get__") (.builtin "object.__class__")) := by
    refine found_class ?_ T.ha T.hn T.ht
    obtain ⟨cd, e, _⟩ := any_some T.hd
    rw [e]
    rfl
  obtain ⟨hp, g, d, t, os⟩ := s
  have l0 := J.type (M := model prog w)
  have l1 := looks_findIn (M := model prog w) KX T.hg
  have l2 := looks_findIn (M := model prog w) KX T.hk
  have l3 := looks_find (M := model prog w) KX J fo
  have isB : Looks (model prog w) hp (isInstance (.ref x) (.type "BaseException")) true := l0.andThen (looks_subIn KX T.hs)
  have n2 : (Value.builtin "BaseException.__getattribute__" == Value.builtin "object.__getattribute__") = false := by decide +kernel
  have n1 : (onTheHeap (Value.ref D) && Value.builtin "BaseException.__getattribute__" == Value.builtin "object.__getattribute__") = false := by rw [n2]; rfl
  have n0 : (false && onTheHeap (Value.builtin "BaseException.__getattribute__")) = false := rfl
  unfold getAttr? getAttrBy? getAttrBy
  refine wpAny_bind (wpAny_mkText (wpAny_bind (wpAny_attempt (wpAny_holding (wpAny_bind (l0.at (wpAny_bind (l1.at ?_))))))))
  show wpAny _ _ (if (onTheHeap (Value.ref D) && Value.builtin "BaseException.__getattribute__" == Value.builtin "object.__getattribute__") = true then _ else _) _ _ _
  rw [n1, if_neg Bool.false_ne_true]
  unfold getAttrByItsOwn hookBefore
  refine wpAny_bind ?_
  rw [if_pos (show onTheHeap (Value.ref D) = true from rfl)]
  refine l2.at (wpAny_bind (wpAny_attempt (wpAny_holding ?_)))
  unfold callGetattribute
  rw [n0, if_neg Bool.false_ne_true]
  unfold boundAndCalled
  rw [PySem.F.excAttr_ValueError.ga.bind (.ref x)]
  refine wpAny_bind (wpAny_pure (wpAny_call (codeAny_call_builtin PySem.F.excAttr_ValueError.ga.plain PySem.F.entry_bexc_ga ?_)))
  refine @check_slot (model prog w) _ _ ⟨hp, g, d, t + 1, os⟩ "BaseException.__getattribute__" "BaseException" "__getattribute__" (.ref x) [.str "__class__" t] [] _ (by decide +kernel) (by decide +kernel) isB (PySem.F.args_bexc_ga (.ref x) (.str "__class__" t)) ?_
  unfold Builtin.«object.__getattribute__»
  refine wpAny_bind (wpAny_of_eq (a := ((Value.ref x : Value), [Value.str "__class__" t])) (by first | rfl | (simp only [slotArgs]; rfl)) (wpAny_bind (wpAny_pure (wpAny_bind (l0.at (wpAny_bind (l3.at ?_)))))))
  show wpAny _ _ (holding [Value.builtin "object.__class__"] (call (.builtin "getset_descriptor.__get__") [.builtin "object.__class__", .ref x, .ref D]) >>= ret) _ _ _
  refine wpAny_bind (wpAny_holding (wpAny_call (class_get (s := ⟨hp, g, d, t + 1, os⟩) (ox := ox) (od := od) KX J T.hm (wpAny_pure ?_))))
  show wpAny _ _ (handedOut (.ref D)) _ _ _
  rw [handedOut_of (v := .ref D) rfl]
  first
    | exact wpAny_pure (wpAny_pure fin)
    | exact wpAny_pure fin
    | exact wpAny_pure (wpAny_bind (wpAny_pure (wpAny_pure fin)))
theorem kitx_err (T : L2.ExcC K D) : KitX K (.ref x) (.ref D) (fun h => ∃ od, InstAt h x ox D od) where
  ty := fun _ _ _ I => by
    obtain ⟨od, I⟩ := I
    exact I.type
  it := fun M h KX _ => by
    obtain ⟨cd, e, _⟩ := any_some T.hd
    unfold clsIn at e
    split at e
    · rename_i c' d' cd' sl' ho
      intro A' Q' E' s' k q
      unfold isType loadHead
      exact wpAny_bind (wpAny_loadPart (k _ _ (KX _ _ ho)) (wpAny_pure q))
    · cases e
  ne := fun h tp dd its n sl KX htp => by
    obtain ⟨cd, e, _⟩ := any_some T.hd
    refine Bool.eq_false_iff.mpr fun q => ?_
    have z : D = tp := Value.ref.inj (beq_iff_eq.mp q)
    subst z
    unfold clsIn at e
    split at e
    · rename_i c' d' cd' sl' ho
      have y := (KX _ _ ho).symm.trans htp
      cases y
    · cases e
  ca := fun KX I k => by
    obtain ⟨od, I⟩ := I
    exact class_of_err T KX I k
end
end Pb
namespace Pb
open PySem PySem.Spec PyProof.Rows L2
/-- what the written part says of an own error's class: isinstance may be asked, fields may be read -/
def ecB (K : PySem.W.Frag) (D : Addr) : Bool := xfB K D && (He.eqO (PySem.W.findIn K (.ref D) "__class__") (some (some (.builtin "object.__class__"))) && (He.eqO (PySem.W.specialIn K (.builtin "object.__class__") "__get__") (some (some (.builtin "getset_descriptor.__get__"))) &&
  (decide (PySem.W.takesIn K (.builtin "object.__class__") = some true) && decide (PySem.W.mroIn K D (.type "object") = some true))))
theorem ecB_ok {K : PySem.W.Frag} {D : Addr} (h : ecB K D = true) : XfC K D ∧ ExcC K D := by
  obtain ⟨h1, h⟩ := He.ba h
  obtain ⟨h2, h⟩ := He.ba h
  obtain ⟨h3, h⟩ := He.ba h
  obtain ⟨h4, h5⟩ := He.ba h
  have X := xfB_ok h1
  exact ⟨X, X.ga, X.gg, X.exC, X.hdC, He.eqO_ok h2, He.eqO_ok h3, of_decide_eq_true h4, of_decide_eq_true h5⟩
section
variable {X : Cx} {a : Addr} {oe : Obj} {cls : Value} {d : Option Addr}
/-- the held error is an instance that has its dict -/
theorem held_inst {pins : List (Addr × Obj)} {σ : L2.St} {H : Hp} {s : Shared} {D dd : Addr} {fs : List (Str × V)} (hz : Zc (.ref D) (some dd) oe) (hf : ∃ vs, oe.data = .fields vs) (I : Inv (heldX X a oe) pins σ H s) (hd : H dd = some (.xd fs)) :
    ∃ od, PySem.W.InstAt s.heap a oe D (some od) ∧ ∀ n v, fs.lookup n = some v → ∃ u, RelV v u ∧ PySem.W.lookIn n od = some (some u) := by
  obtain ⟨ha, _⟩ := I.pin (a, oe) (List.mem_append_left _ List.mem_cons_self)
  obtain ⟨vs, hv⟩ := hf
  obtain ⟨mA, hns, hr⟩ : ObjOk X.prog X.w H s.heap dd (.xd fs) := I.hok dd _ hd
  obtain ⟨od, ho, hl⟩ := lookIn_ns hns
  refine ⟨od, ⟨ha, hz.1, by unfold PySem.W.notCls; rw [hv] <;> rfl, by rw [hz.2]; exact ho⟩, fun n v l => ?_⟩
  obtain ⟨u, hu, ru⟩ := RelO.some_of (v := v) (o := mA n) (by rw [← l]; exact hr n)
  exact ⟨u, ru, by rw [hl, hu]⟩
/-- isinstance(y, c), y the held error -/
def rIsH (K : PySem.W.Frag) (a : Addr) (cls : Value) (d : Option Addr) : List V → Hp → VK → Prop := fun xs H Q => ∃ (D dd : Addr) (fs : List (Str × V)) (c : V) (cv : Value) (b : Bool), xs = [.ref a, c] ∧ cls = .ref D ∧ d = some dd ∧ H dd = some (.xd fs) ∧ ecB K D = true ∧ (∀ u, RelV c u → u = cv) ∧ PySem.W.kitOne K (.ref D) cv = some b ∧ Q (.bl b) H
theorem call_isH (hz : Zc cls d oe) (hf : ∃ vs, oe.data = .fields vs) : CallR (heldX X a oe) (.builtin "isinstance") (rIsH X.K a cls d) := by
  intro pins s σ H xs us Q I r h
  obtain ⟨D, dd, fs, c, cv, b, rfl, rfl, rfl, hd, T, hcv, e, q⟩ := h
  cases r with
  | cons rx rr =>
    cases rr with
    | cons rt rr =>
      cases rr
      cases rx
      cases hcv _ rt
      obtain ⟨od, J, _⟩ := held_inst hz hf I hd
      exact PySem.W.kia_one (kitx_err (ox := oe) (ecB_ok T).2) I.kIn ⟨_, J⟩ e (fun z => nomatch z) fun tk => ⟨.bl b, H, I.kept (t' := tk) fun _ _ z => z, rfl, q⟩
/-- y.n, y the held error -/
def tHf (K : PySem.W.Frag) (a : Addr) (cls : Value) (d : Option Addr) (n : Str) (te : TE) : TE := fun σ H Q => te σ H fun x H1 => ∃ (D dd : Addr) (fs : List (Str × V)) (v : V), x = .ref a ∧ cls = .ref D ∧ d = some dd ∧ H1 dd = some (.xd fs) ∧ ecB K D = true ∧ PySem.W.findIn K (.ref D) n = some none ∧ fs.lookup n = some v ∧ Q v H1
theorem pe_hf {e : Expr} {te : TE} {pos : Pos} {n : Str} (hz : Zc cls d oe) (hf : ∃ vs, oe.data = .fields vs) (he : PE (heldX X a oe) e te) (hb : attributeBase e n X.env (eval e X.env) = eval e X.env := by rfl) :
    PE (heldX X a oe) (.Attribute e n pos) (tHf X.K a cls d n te) := by
  constructor
  intro pins s σ H Q I h
  refine attr_of hb (thn (he.run pins s σ H _ I h) fun u s1 hh => ?_)
  obtain ⟨x, H1, I1, rx, D, dd, fs, v, rfl, rfl, rfl, hd, T, hno, l, q⟩ := hh
  cases rx
  obtain ⟨od, J, lk⟩ := held_inst hz hf I1 hd
  obtain ⟨u, ru, hu⟩ := lk n v l
  have C := (ecB_ok T).1
  exact HandSPX.exc_get I1.kIn J C.ga C.gg C.exC (PySem.W.findObj_own C.hdC hno rfl hu) (handed_of ru) ⟨v, H1, I1.tok _, ru, q⟩
end
end Pb
namespace Pb
open PySem PySem.Spec PyProof.Rows L2

/-! ### an own error that is a value: isinstance, fields -/
section
variable {X : Cx}
theorem val_inst {pins : List (Addr × Obj)} {σ : L2.St} {H : Hp} {s : Shared} {p D dd : Addr} {fs : List (Str × V)} (I : Inv X pins σ H s) (hp : H p = some (exo p D (some dd))) (hd : H dd = some (exd dd fs)) :
    ∃ ox od, PySem.W.InstAt s.heap p ox D (some od) ∧ ∀ n v, fs.lookup n = some v → ∃ u, RelV v u ∧ PySem.W.lookIn n od = some (some u) := by
  obtain ⟨t1, hx⟩ := exo_at I.hok hp
  obtain ⟨mA, hns, hr⟩ := exd_at I.hok hd
  obtain ⟨od, ho, hl⟩ := lookIn_ns hns
  refine ⟨_, od, ⟨hx, rfl, rfl, ho⟩, fun n v l => ?_⟩
  obtain ⟨u, hu, ru⟩ := RelO.some_of (v := v) (o := mA n) (by rw [← l]; exact hr n)
  exact ⟨u, ru, by rw [hl, hu]⟩
def rIsV (K : PySem.W.Frag) : List V → Hp → VK → Prop := fun xs H Q => ∃ (p D dd : Addr) (fs : List (Str × V)) (c : V) (cv : Value) (b : Bool), xs = [.ref p, c] ∧ H p = some (exo p D (some dd)) ∧ H dd = some (exd dd fs) ∧ ecB K D = true ∧ (∀ u, RelV c u → u = cv) ∧ PySem.W.kitOne K (.ref D) cv = some b ∧ Q (.bl b) H
theorem call_isV : CallR X (.builtin "isinstance") (rIsV X.K) := by
  intro pins s σ H xs us Q I r h
  obtain ⟨p, D, dd, fs, c, cv, b, rfl, hp, hd, T, hcv, e, q⟩ := h
  cases r with
  | cons rx rr =>
    cases rr with
    | cons rt rr =>
      cases rr
      cases rx
      cases hcv _ rt
      obtain ⟨ox, od, J, _⟩ := val_inst I hp hd
      exact PySem.W.kia_one (kitx_err (ox := ox) (ecB_ok T).2) I.kIn ⟨_, J⟩ e (fun z => nomatch z) fun tk => ⟨.bl b, H, I.kept (t' := tk) fun _ _ z => z, rfl, q⟩
def tVf (K : PySem.W.Frag) (n : Str) (te : TE) : TE := fun σ H Q => te σ H fun x H1 => ∃ (p D dd : Addr) (fs : List (Str × V)) (v : V), x = .ref p ∧ H1 p = some (exo p D (some dd)) ∧ H1 dd = some (exd dd fs) ∧ ecB K D = true ∧ PySem.W.findIn K (.ref D) n = some none ∧ fs.lookup n = some v ∧ Q v H1
end
section
variable {X : Cx} {a : Addr} {oe : Obj} {cls : Value} {d : Option Addr}
/-- in the rest behind the try: the held error, or one that is a value -/
def rIsHV (K : PySem.W.Frag) (a : Addr) (cls : Value) (d : Option Addr) : List V → Hp → VK → Prop := fun xs H Q => rIsH K a cls d xs H Q ∨ rIsV K xs H Q
theorem call_isHV (hz : Zc cls d oe) (hf : ∃ vs, oe.data = .fields vs) : CallR (heldX X a oe) (.builtin "isinstance") (rIsHV X.K a cls d) := CallR.or (call_isH hz hf) call_isV
def tHVf (K : PySem.W.Frag) (a : Addr) (cls : Value) (d : Option Addr) (n : Str) (te : TE) : TE := fun σ H Q => te σ H fun x H1 => (∃ (D dd : Addr) (fs : List (Str × V)) (v : V), x = .ref a ∧ cls = .ref D ∧ d = some dd ∧ H1 dd = some (.xd fs) ∧ ecB K D = true ∧ PySem.W.findIn K (.ref D) n = some none ∧ fs.lookup n = some v ∧ Q v H1) ∨
  ∃ (p D dd : Addr) (fs : List (Str × V)) (v : V), x = .ref p ∧ H1 p = some (exo p D (some dd)) ∧ H1 dd = some (exd dd fs) ∧ ecB K D = true ∧ PySem.W.findIn K (.ref D) n = some none ∧ fs.lookup n = some v ∧ Q v H1
theorem pe_hvf {e : Expr} {te : TE} {pos : Pos} {n : Str} (hz : Zc cls d oe) (hf : ∃ vs, oe.data = .fields vs) (he : PE (heldX X a oe) e te) (hb : attributeBase e n X.env (eval e X.env) = eval e X.env := by rfl) :
    PE (heldX X a oe) (.Attribute e n pos) (tHVf X.K a cls d n te) := by
  constructor
  intro pins s σ H Q I h
  refine attr_of hb (thn (he.run pins s σ H _ I h) fun u s1 hh => ?_)
  obtain ⟨x, H1, I1, rx, hh⟩ := hh
  rcases hh with ⟨D, dd, fs, v, rfl, rfl, rfl, hd, T, hno, l, q⟩ | ⟨p, D, dd, fs, v, rfl, hp, hd, T, hno, l, q⟩
  · cases rx
    obtain ⟨od, J, lk⟩ := held_inst hz hf I1 hd
    obtain ⟨u, ru, hu⟩ := lk n v l
    have C := (ecB_ok T).1
    exact HandSPX.exc_get I1.kIn J C.ga C.gg C.exC (PySem.W.findObj_own C.hdC hno rfl hu) (handed_of ru) ⟨v, H1, I1.tok _, ru, q⟩
  · cases rx
    obtain ⟨ox, od, J, lk⟩ := val_inst I1 hp hd
    obtain ⟨u, ru, hu⟩ := lk n v l
    have C := (ecB_ok T).1
    exact HandSPX.exc_get I1.kIn J C.ga C.gg C.exC (PySem.W.findObj_own C.hdC hno rfl hu) (handed_of ru) ⟨v, H1, I1.tok _, ru, q⟩
end
/-! ### their readings over data -/
section
variable {c : Fc} {Γ : List Sl} {n : Nat} {k : Kd} {te : TE} {ta : TA} {N : Nd}
theorem lookup_data {c : Wc} {av : Addr → Prop} {H : Hp} {f : Str} {d : Dt} : ∀ {fs : List (Str × V)} {ns : List Str} {ds : List Dt}, fs.map (·.1) = ns → DaAll c av H (fs.map (·.2)) ds → (ns.zip ds).lookup f = some d → ∃ v, fs.lookup f = some v ∧ Da c av H v d
  | [], _, _, e, h, l => by
    cases e
    cases h
    cases l
  | (g, v) :: fs, _, _, e, h, l => by
    cases e
    cases h with
    | cons h1 h2 =>
      rw [List.map_cons, List.zip_cons_cons] at l
      simp only [List.lookup] at l ⊢
      split at l
      · cases l
        exact ⟨v, rfl, h1⟩
      · exact lookup_data rfl h2 l
/-- isinstance of an error -/
theorem w_isHV {a D0 dd0 C : Addr} {cls : Value} {d : Option Addr} (her : c.er = some (a, D0, dd0)) (hcls : cls = .ref D0) (hd : d = some dd0)
    (h : We c Γ n te fun d1 m => ∃ cn ns ds b, d1 = .err cn ns ds ∧ (∀ D, c.mg cn = some (.ref D) → ecB c.K D = true ∧ PySem.W.kitOne c.K (.ref D) (.ref C) = some b) ∧ k (.bl b) m) :
    We c Γ n (tCB (rIsHV c.K a cls d) (tCons te (tCons (tC (.ref C)) tNil))) k := by
  intro ρ av o σ H S Q hQ
  refine h ρ av o σ H S _ fun x H1 d1 n1 S1 x1 h1 k1 => ?_
  obtain ⟨cn, ns, ds, b, rfl, hC, k1⟩ := k1
  have hu : ∀ u, RelV (.ref C) u → u = .ref C := fun u r => r
  cases h1 with
  | err e1 e2 e3 e4 =>
    obtain ⟨T, kt⟩ := hC _ e2
    rcases e1 with ⟨dd, q1, q2, q3⟩ | ⟨dd, q1, q2, q3, q4⟩
    · rw [her] at q1
      cases q1
      exact .inl ⟨_, _, _, .ref C, .ref C, b, rfl, hcls, hd, q3, T, hu, kt, hQ _ H1 _ n1 S1 x1 (.bl b) k1⟩
    · exact .inr ⟨_, _, _, _, .ref C, .ref C, b, rfl, q3, q4, T, hu, kt, hQ _ H1 _ n1 S1 x1 (.bl b) k1⟩
/-- a field of an error -/
theorem w_hvf {a D0 dd0 : Addr} {cls : Value} {d : Option Addr} {f : Str} (her : c.er = some (a, D0, dd0)) (hcls : cls = .ref D0) (hd : d = some dd0)
    (h : We c Γ n te fun d1 m => ∃ cn ns ds e, d1 = .err cn ns ds ∧ (∀ D, c.mg cn = some (.ref D) → ecB c.K D = true ∧ PySem.W.findIn c.K (.ref D) f = some none) ∧ (ns.zip ds).lookup f = some e ∧ k e m) :
    We c Γ n (tHVf c.K a cls d f te) k := by
  intro ρ av o σ H S Q hQ
  refine h ρ av o σ H S _ fun x H1 d1 n1 S1 x1 h1 k1 => ?_
  obtain ⟨cn, ns, ds, e, rfl, hC, l, k1⟩ := k1
  cases h1 with
  | err e1 e2 e3 e4 =>
    obtain ⟨T, hno⟩ := hC _ e2
    obtain ⟨v, hl, hv⟩ := lookup_data e3 e4 l
    rcases e1 with ⟨dd, q1, q2, q3⟩ | ⟨dd, q1, q2, q3, q4⟩
    · rw [her] at q1
      cases q1
      exact .inl ⟨_, _, _, v, rfl, hcls, hd, q3, T, hno, hl, hQ _ H1 _ n1 S1 x1 hv k1⟩
    · exact .inr ⟨_, _, _, _, v, rfl, q3, q4, T, hno, hl, hQ _ H1 _ n1 S1 x1 hv k1⟩
/-- raise x(e) -/
theorem w_raise {C : Addr} {f cn : Str} (hm : c.mg cn = some (.ref C)) (h : Wa c Γ n ta fun ds m => ∃ d, ds = [d] ∧ c.xk cn [(f, d)] m) : Ws c Γ n (tRaiseS C f (fun cls d _ H => c.E cls d H) ta) N := by
  intro ρ av o σ H S D L
  refine h ρ av o σ H S _ fun vs H1 ds m S1 x1 h1 k1 => ?_
  obtain ⟨d, rfl, k1⟩ := k1
  cases h1 with
  | cons hv hn =>
    cases hn
    rename_i v
    refine ⟨v, rfl, fun x hx => ?_⟩
    have sm := same_new (o := .xd [(f, v)]) hx
    have S2 := S1.same sm
    refine S2.ex cn C x _ [(f, v)] [(f, d)] m hm S2.kp S2.pen (fun z => S1.live.new hx (S1.rsub x z)) upd_same rfl ?_ k1
    exact .cons ((hv.keep (same_kp sm)).less S1.rsub) .nil
end
end Pb
namespace Pb
open PySem PySem.Spec PyProof.Rows L2

/-! ### a def that gets a lambda, calls it in a try, and holds the error that it raises -/
theorem takes_len {X : Cx} {W : WX} (t : Takes X W) : Takes X (fun cls d σ H => σ.length = X.N.length → W cls d σ H) := by
  intro u s' x
  obtain ⟨a, B, sI, pins, σ, H, cls, d, e, I, nb, up, sky, na, os, ag, w⟩ := x
  exact t u s' ⟨a, B, sI, pins, σ, H, cls, d, e, I, nb, up, sky, na, os, ag, w I.len⟩
/-- where the held error goes -/
def Eh (K : PySem.W.Frag) (CS : Addr) (i j len : Nat) (k : Addr → Value → Option Addr → TS) (Q : VK) : XK := fun cls d H' => ∀ σ' : L2.St, σ'.length = len → wKeep K (.ref CS) i j k (fun _ _ _ _ => False) { nx := fun _ H' => Q .non H', rt := Q } cls d σ' H'
/-- what such a def makes of a lambda: wr is what it makes of the lambda's value -/
def TTh (K : PySem.W.Frag) (CS : Addr) (i j len : Nat) (k : Addr → Value → Option Addr → TS) (wr : TE → TE) : (XK → Hp → VK → Prop) → Hp → VK → Prop := fun tl H Q =>
  ∀ σ : L2.St, σ.length = len → wr (fun _ H1 Q1 => tl (Eh K CS i j len k Q) H1 Q1) σ H Q
abbrev tNever : TS := fun _ _ _ => False
theorem pss_never {X : Cx} {st : List Stmt} : PSs X st tNever := ⟨fun _ _ _ _ _ _ h => h.elim⟩
section
variable {X : Cx} {Ng : List Str} {x a q ex n y : Str} {sg : Scope} {g CS : Addr} {cdg : Value} {i j : Nat} {st1 : Stmt} {e0 : Expr} {rest : List Stmt} {pr np p1 p2 p3 pos pos' : Pos} {k : Addr → Value → Option Addr → TS} {wr : TE → TE}
abbrev hearX (X : Cx) (Ng : List Str) (x : Str) (sg : Scope) (g : Addr) (cdg : Value) (s : Shared) (H : Hp) : Cx := (cxOf C8.CX0 X.prog X.w X.K X.mg X.base Ng x sg g cdg X.A X.stack s H C8.E0).nox
theorem heard_gives (hN : Ng.Nodup) (hi : Ng[i]? = some n) (hj : Ng[j]? = some y) (hij : i ≠ j) (hj0 : j ≠ 0) (hln : sg.names.lookup n = some .local) (hly : sg.names.lookup y = some .local) (hge : sg.names.lookup ex = some .globalImplicit) (hme : X.mg ex = some (.ref CS)) (hde : (ex == ("__debug__" : Str)) = false)
    (hdn : (n == ("__debug__" : Str)) = false) (hcn : (n == ("__classdict__" : Str)) = false)
    (h1 : ∀ s H, PS (hearX X Ng x sg g cdg s H) st1 (tAsg (tC .non) (gName j)))
    (hsw : ∀ s H, swapsWith (.Name n p2) (some (.Name y p1)) p3.line (hearX X Ng x sg g cdg s H).env = pure false)
    (hwr : ∀ s H (pn : List (Addr × Obj)) (xe : Value → Shared → Prop) (te : TE), (∀ q1 q2, PE ((hearX X Ng x sg g cdg s H).tr pn xe) (.Call (.Name a q1) [] [] q2) te) → PE ((hearX X Ng x sg g cdg s H).tr pn xe) e0 (wr te))
    (hmono : ∀ (te te' : TE) (σ : L2.St) (H : Hp) (Q : VK), (∀ Q', te σ H Q' → te' σ H Q') → wr te σ H Q → wr te' σ H Q)
    (hk : ∀ s H (b : Addr) (oe : Obj) (cls : Value) (d : Option Addr), Zc cls d oe → (∃ vs, oe.data = .fields vs) → PSs (heldX (hearX X Ng x sg g cdg s H) b oe) rest (k b cls d)) :
    LamX.GivesTo X Ng x sg g cdg (st1 :: .Try [.Return (some e0) pr] [.ExceptHandler (some (.Name ex np)) (some n) [.Assign [.Name y p1] (.Name n p2) p3] pos'] [] [] pos :: rest) a q (TTh X.K CS i j Ng.length k wr) := by
  intro f c' s H Q tl act hc h
  refine ⟨_, pss_cons (h1 s H) (pss_keep (X := hearX X Ng x sg g cdg s H) (c := .ref CS) (i := i) (j := j) (Wout := fun _ _ _ _ => False) (u := tNever) (k := k)
    (tb := fun W D σ H => ∃ Ech : XK, (∀ cls d σ' H', Ech cls d H' → σ'.length = Ng.length → W cls d σ' H') ∧ tRet (wr fun σZ HZ Q => σZ[0]? = some (some (.ref f)) ∧ HZ c' = some (LamX.CodeO c' q) ∧ tl Ech HZ Q) D σ H)
    rfl rfl hN hi hj hij hln hly ⟨hge, hde, .inl hme⟩ LamX.takes0 hdn hcn (hsw s H) ?_ pss_never (hk s H)), ?_⟩
  · intro W pn xe tk _
    constructor
    intro pins s' σ H' D I h'
    obtain ⟨Ech, hW, h3⟩ := h'
    have hp := hwr s H pn xe _ fun q1 q2 => act _ pn xe Ech q1 q2 (takes_len tk) (fun cls d σ' H' e => hW cls d σ' H' e)
    exact (pss_one (ps_ret (pos := pr) hp)).run pins s' σ H' D I h3
  · have hl : (L2.start Ng [V.ref f]).length = Ng.length := by
      have : 0 < Ng.length := by
        cases Ng with
        | nil => simp at hi
        | cons _ _ => simp
      unfold L2.start
      simp
      omega
    have h0 : ((L2.start Ng [V.ref f]).set j (some .non))[0]? = some (some (V.ref f)) := by
      rw [List.getElem?_set_ne hj0]
      rfl
    refine ⟨Eh X.K CS i j Ng.length k Q, fun cls d σ' H' e hl => e σ' hl, ?_⟩
    exact hmono _ _ _ _ _ (fun Q' z => ⟨h0, hc, z⟩) (h _ (by rw [List.length_set]; exact hl))
end
end Pb
namespace Pb
open PySem PySem.Spec PyProof.Rows L2

/-! ### data without errors -/
mutual
def Dt.ne : Dt → Bool
  | .lst xs => Dt.nes xs
  | .tup xs => Dt.nes xs
  | .dic _ xs => Dt.nes xs
  | .obj _ _ xs => Dt.nes xs
  | .err _ _ _ => false
  | _ => true
def Dt.nes : List Dt → Bool
  | [] => true
  | x :: xs => Dt.ne x && Dt.nes xs
end
/-- two contexts of the same world -/
structure Alike (c1 c2 : Wc) : Prop where
  K : c1.K = c2.K
  mg : c1.mg = c2.mg
  a : c1.a = c2.a
section
variable {c1 c2 : Wc} {av : Addr → Prop} {H : Hp}
mutual
theorem Da.swap (s : Alike c1 c2) : ∀ (d : Dt) (v : V), (d.ne = true ∨ c1.er = none) → Da c1 av H v d → Da c2 av H v d
  | .non, _, _, h => by cases h; exact .non
  | .bl _, _, _, h => by cases h; exact .bl _
  | .int _, _, _, h => by cases h; exact .int _
  | .str _, _, _, h => by cases h; exact .str _
  | .lst ds, _, e, h => by
    cases h with
    | lst h1 h2 h3 => exact .lst h1 h2 (DaAll.swap s ds _ (e.imp (fun z => by simpa [Dt.ne] using z) id) h3)
  | .tup ds, _, e, h => by
    cases h with
    | tup h2 h3 => exact .tup (s.K ▸ h2) (DaAll.swap s ds _ (e.imp (fun z => by simpa [Dt.ne] using z) id) h3)
  | .dic ks ds, _, e, h => by
    cases h with
    | dic h1 h2 h3 h4 => exact .dic h1 h2 h3 (DaAll.swap s ds _ (e.imp (fun z => by simpa [Dt.ne] using z) id) h4)
  | .obj cn ns ds, _, e, h => by
    cases h with
    | obj h1 h2 h3 h4 h5 => exact .obj h1 (s.mg ▸ h2) h3 h4 (DaAll.swap s ds _ (e.imp (fun z => by simpa [Dt.ne] using z) id) h5)
  | .err cn ns ds, _, e, h => by
    rcases e with z | z
    · simp [Dt.ne] at z
    · cases h with
      | err h1 h2 h3 h4 =>
        refine .err ?_ (s.mg ▸ h2) h3 (DaAll.swap s ds _ (.inr z) h4)
        rcases h1 with ⟨dd, q, _⟩ | h1
        · rw [z] at q
          cases q
        · exact .inr h1
  | .pen, _, _, h => by
    cases h
    rw [s.a]
    exact .pen
theorem DaAll.swap (s : Alike c1 c2) : ∀ (ds : List Dt) (vs : List V), (Dt.nes ds = true ∨ c1.er = none) → DaAll c1 av H vs ds → DaAll c2 av H vs ds
  | [], _, _, h => by cases h; exact .nil
  | d :: ds, _, e, h => by
    cases h with
    | cons h1 h2 =>
      have e1 : d.ne = true ∨ c1.er = none := e.imp (fun z => by simp [Dt.nes] at z; exact z.1) id
      have e2 : Dt.nes ds = true ∨ c1.er = none := e.imp (fun z => by simp [Dt.nes] at z; exact z.2) id
      exact .cons (Da.swap s d _ e1 h1) (DaAll.swap s ds _ e2 h2)
end
end
/-! ### x(lambda: e): the def x calls it in a try and holds the error -/
def hideS : Sl → Sl
  | .ol _ _ => .un
  | s => s
/-- the slots behind the try, where an error is held in slot j -/
def gamE (len j : Nat) (cn : Str) (es : List (Str × Dt)) : List Sl := (List.replicate len .un).set j (.da (.err cn (es.map (·.1)) (es.map (·.2))))
abbrev erC (c : Fc) (a C x : Addr) : Fc := { c with er := some (a, C, x), E := E0, xk := fun _ _ _ => False }
/-- what a lambda's error must be good for -/
def xkH (c : Fc) (CS : Addr) (j len : Nat) (k : Addr → Value → Option Addr → TS) (kk : Kd) : Str → List (Str × Dt) → Nat → Prop := fun cn es m =>
  (∀ C, c.mg cn = some (.ref C) → PySem.W.exmOne c.K (.ref C) (.ref CS) = some true) ∧
  ∀ a C x, c.mg cn = some (.ref C) → Ws (erC c a C x) (gamE len j cn es) m (k a (.ref C) (some x)) { nx := fun _ _ => False, rt := fun d m' => d.ne = true ∧ kk d m' }
abbrev lamC (c : Fc) (E : XK) (CS : Addr) (j len : Nat) (k : Addr → Value → Option Addr → TS) (kk : Kd) : Fc := { c with E := E, xk := xkH c CS j len k kk }
section
variable {c : Fc} {Γ : List Sl} {n : Nat} {kk : Kd} {CS : Addr} {i j len : Nat} {k : Addr → Value → Option Addr → TS} {t : XK → TE}
theorem SS.hide {ρ : Rt} {av : Addr → Prop} {o : Nat → Addr} {σ : L2.St} {H : Hp} (S : SS c ρ av o Γ n σ H) {E : XK} {xk : Str → List (Str × Dt) → Nat → Prop}
    (ex : Exk { c with E := E, xk := xk } ⟨H, av, fun p => p = c.a, o, av, Γ.length⟩) : SS { c with E := E, xk := xk } ⟨H, av, fun p => p = c.a, o, av, Γ.length⟩ av o (Γ.map hideS) n σ H where
  len := by rw [List.length_map]; exact S.len
  gl := by rw [List.length_map]
  pa := S.pa
  pl := S.pl
  pm := rfl
  sub := fun _ h => h
  rsub := fun _ h => h
  msub := fun p h => by
    have e : p = c.a := h
    rw [e]; exact S.pa
  asub := fun _ h => .inl h
  live := S.live
  live0 := S.live
  pen := S.pen
  kp := Kp.refl _ _
  ex := ex
  dat := fun i d h => by
    rw [List.getElem?_map] at h
    cases e : Γ[i]? with
    | none => rw [e] at h; cases h
    | some s =>
      rw [e] at h
      cases s with
      | un => cases h
      | da d' =>
        cases h
        exact S.dat i d e
      | ol b ds => cases h
  own := fun i b ds h => by
    rw [List.getElem?_map] at h
    cases e : Γ[i]? with
    | none => rw [e] at h; cases h
    | some s => rw [e] at h; cases s <;> cases h
  inj := fun i _ b _ ds _ h => by
    rw [List.getElem?_map] at h
    cases e : Γ[i]? with
    | none => rw [e] at h; cases h
    | some s => rw [e] at h; cases s <;> cases h
/-- the error's way: the rest behind the try, run over data -/
theorem eh_run {ρ : Rt} {av : Addr → Prop} {o : Nat → Addr} {σ : L2.St} {H H1 H' : Hp} {Q : VK} {cn : Str} {C x : Addr} {fs : List (Str × V)} {es : List (Str × Dt)} {n' : Nat} (her : c.er = none) (hij : i ≠ j) (hjl : j < len) (S : SS c ρ av o Γ n σ H) (st1 : Stp c.a H H1)
    (hQ : ∀ v H' d m, SS c ρ av o Γ m σ H' → Stp c.a H H' → Da c.toWc av H' v d → kk d m → Q v H')
    (hm : c.mg cn = some (.ref C)) (kp : Kp (fun p => p = c.a) H1 H') (pn : Pen c.a c.l c.ns c.T n' H') (nx : ¬ av x) (hx : H' x = some (.xd fs)) (hn : fs.map (·.1) = es.map (·.1)) (da : DaAll c.toWc av H' (fs.map (·.2)) (es.map (·.2))) (hxk : xkH c CS j len k kk cn es n') :
    Eh c.K CS i j len k Q (.ref C) (some x) H' := by
  intro σ' hσ'
  refine ⟨true, hxk.1 C hm, fun _ a ha => ?_, fun z => by cases z⟩
  have st2 : Stp c.a H H' := st1.trans (kp_pen kp)
  have S4 : SS (erC c a C x) (rootOf c.a H' av len) av (fun _ => 0) (gamE len j cn es) n' (((σ'.set i (some (.ref a))).set j (some (.ref a))).set i none) H' := {
    len := by
      unfold gamE
      rw [List.length_set, List.length_set, List.length_set, List.length_set, List.length_replicate]
      exact hσ'
    gl := by
      unfold gamE
      rw [List.length_set, List.length_replicate]
      rfl
    pa := S.pa
    pl := S.pl
    pm := rfl
    sub := fun _ h => h
    rsub := fun _ h => h
    msub := fun p h => by
      have e : p = c.a := h
      rw [e]; exact S.pa
    asub := fun _ h => .inl h
    live := S.live.stp st2 pn.live
    live0 := S.live.stp st2 pn.live
    pen := pn
    kp := Kp.refl _ _
    ex := fun _ _ _ _ _ _ _ _ _ _ _ _ _ _ z => z
    dat := fun l d h => by
      unfold gamE at h
      by_cases hl : j = l
      · subst hl
        rw [List.getElem?_set_self (by rw [List.length_replicate]; exact hjl)] at h
        cases h
        refine ⟨.ref a, ?_, .err (.inl ⟨x, rfl, nx, hx⟩) hm hn (DaAll.swap (c1 := c.toWc) (c2 := (erC c a C x).toWc) ⟨rfl, rfl, rfl⟩ _ _ (.inr her) da)⟩
        rw [List.getElem?_set_ne hij, List.getElem?_set_self (by rw [List.length_set, hσ']; exact hjl)]
      · rw [List.getElem?_set_ne hl, List.getElem?_replicate] at h
        split at h <;> cases h
    own := fun l b ds h => by
      exfalso
      unfold gamE at h
      by_cases hl : j = l
      · subst hl
        rw [List.getElem?_set_self (by rw [List.length_replicate]; exact hjl)] at h
        cases h
      · rw [List.getElem?_set_ne hl, List.getElem?_replicate] at h
        split at h <;> cases h
    inj := fun l _ b _ ds _ h => by
      exfalso
      unfold gamE at h
      by_cases hl : j = l
      · subst hl
        rw [List.getElem?_set_self (by rw [List.length_replicate]; exact hjl)] at h
        cases h
      · rw [List.getElem?_set_ne hl, List.getElem?_replicate] at h
        split at h <;> cases h }
  refine hxk.2 a C x hm _ _ _ _ H' S4 _ ⟨fun _ _ _ _ _ _ _ z => z.elim, fun av' v H2 d m sub kp2 pn2 da2 q => ?_, fun _ _ _ _ _ _ _ z => z.elim, fun _ _ _ _ _ _ _ z => z.elim⟩
  have st3 : Stp c.a H H2 := st2.trans (kp_pen kp2)
  exact hQ v H2 d m (S.stp st3 pn2) st3 ((Da.swap (c1 := (erC c a C x).toWc) (c2 := c.toWc) ⟨rfl, rfl, rfl⟩ d v (.inl q.1) da2).less sub) q.2
theorem tabs_stp {H H1 : Hp} {a : Addr} (e : LamX.ExtN H H1) : Stp a H H1 := fun b o _ h t => e b o h fun ps z => by
  rw [z] at t
  cases t
theorem Pen.extN {a l : Addr} {ns : List Int} {T : List (Addr × Str)} {H H1 : Hp} (p : Pen a l ns T n H) (e : LamX.ExtN H H1) (t : LamX.Tabs T H1) : Pen a l ns T n H1 := by
  obtain ⟨u, r, h1, h2, h3, h4, h5, h6, _⟩ := p
  exact ⟨u, r, e _ _ h1 (fun ps z => by cases z), e _ _ h2 (fun ps z => by cases z), h3, h4, h5, h6, t⟩
theorem Pen.tabs {a l : Addr} {ns : List Int} {T : List (Addr × Str)} {H : Hp} (p : Pen a l ns T n H) : LamX.Tabs T H := by
  obtain ⟨u, r, h1, h2, h3, h4, h5, h6, h7⟩ := p
  exact h7
/-- return [ask()] -/
abbrev wrL : TE → TE := fun te => tLst (tCons te tNil)
theorem w_lamL (her : c.er = none) (hij : i ≠ j) (hjl : j < len) (hw : ∀ E, We (lamC c E CS j len k kk) (Γ.map hideS) n (t E) fun v m => kk (.lst [v]) m) : We c Γ n (LamX.tLam c.T (TTh c.K CS i j len k wrL) t) kk := by
  intro ρ av o σ H S Q hQ
  refine ⟨S.pen.tabs, fun H1 eN T1 => ?_⟩
  have st1 : Stp c.a H H1 := tabs_stp eN
  have S1 := S.stp st1 (S.pen.extN eN T1)
  intro σh hσh
  refine hw (Eh c.K CS i j len k Q) _ av o σ H1 (S1.hide ?_) _ fun v H2 d m S3 x3 hd hkd => ?_
  · intro cn C x H' fs es n' hm kp pn nx hx hn da hxk
    exact eh_run her hij hjl S st1 hQ hm kp pn nx hx hn da hxk
  · refine ⟨szl rfl, fun p hp => ?_⟩
    have sm := same_new (o := .lst [v]) hp
    have st : Stp c.a H (upd H2 p (.lst [v])) := (st1.trans x3).trans (Stp.same sm)
    exact hQ _ _ (.lst [d]) m (S.stp st (S3.pen.same sm)) st (Da.newL S3.live hp (.cons hd .nil)) hkd
end
/-! ### a def that is handed no error: its body holds none -/
section
variable {P : Program} {w : World} {K : PySem.W.Frag} {mg : Str → Option Value} {T : List (Addr × Str)} {base : Heap} {x qual : Str} {params : Arguments} {body : List Stmt} {scope : Scope} {dvs : List V} {kws : List (Str × V)} {f : Addr} {fd : FuncData}
/-- the same promise, from a context that holds no error -/
theorem spD_none {S : Sp1} {vs : List V} {H : Hp} {Q : VK} {E : XK} (hne : ∀ ds, S.pre ds → Dt.nes ds = true) (h : spD K mg T S vs H Q E) : ∃ (a l : Addr) (ns : List Int) (av : Addr → Prop) (n : Nat) (ds : List Dt), Live av H ∧ (av a ∧ ¬ av l) ∧ DaAll ⟨K, mg, a, l, ns, T, none⟩ av H vs ds ∧ Pen a l ns T (n + S.cost) H ∧ S.pre ds ∧
    (∀ v H' d, Stp a H H' → Pen a l ns T n H' → Da ⟨K, mg, a, l, ns, T, none⟩ av H' v d → S.post ds d → Q v H') := by
  obtain ⟨a, l, ns, er, av, n, ds, lv, pa, da, pn, hp, hq, _⟩ := h
  refine ⟨a, l, ns, av, n, ds, lv, pa, DaAll.swap (c1 := ⟨K, mg, a, l, ns, T, er⟩) (c2 := ⟨K, mg, a, l, ns, T, none⟩) ⟨rfl, rfl, rfl⟩ ds vs (.inl (hne ds hp)) da, pn, hp, fun v H' d st p h1 h2 => ?_⟩
  exact hq v H' d st p (Da.swap (c1 := ⟨K, mg, a, l, ns, T, none⟩) (c2 := ⟨K, mg, a, l, ns, T, er⟩) ⟨rfl, rfl, rfl⟩ d v (.inr rfl) h1) h2
theorem okD0n {b : Bool} {N ps : List Str} {k : Nat} {S : Sp1} (F : FunD K x qual params body scope dvs kws f fd) (sc : FnScope N ps scope) (len : ∀ ds, S.pre ds → ds.length = ps.length) (hne : ∀ ds, S.pre ds → Dt.nes ds = true)
    (hbody : ∀ (cdv : Value) (A : Around) (outer : List Env) (s : Shared) (H : Hp) (E : XK), RoomG b k (A.deeper (envOfC qual scope s.heap.objs.size f cdv)) →
      ∃ t, PSs (cxOf CX0 P w K mg base N qual scope f cdv A outer s H E).nox body t ∧ ∀ (c : Fc), c.K = K → c.mg = mg → c.T = T → c.er = none → ∀ (ds : List Dt) (n : Nat), S.pre ds → Ws c (gam N ds) (n + S.cost) t (ndOf S ds n)) :
    FnG b P w K mg base CX0 (k + 1) f fd ps (spD K mg T S) := by
  refine okG0 F sc (fun vs H Q E h => ?_) fun cdv A outer s H vs Q E hr h => ?_
  · obtain ⟨a, l, ns, er, av, n, ds, _, _, da, _, hp, _⟩ := h
    rw [da.length]
    exact len ds hp
  · obtain ⟨a, l, ns, av, n, ds, lv, pa, da, pn, hp, hq⟩ := spD_none hne h
    obtain ⟨t, ht, hw⟩ := hbody cdv A outer s H E hr
    refine ⟨t, ht, ?_⟩
    refine hw ⟨⟨K, mg, a, l, ns, T, none⟩, E0, fun _ _ _ => False⟩ rfl rfl rfl rfl ds n hp (rootOf a H av (gam N ds).length) av (fun _ => 0) (L2.start N vs) H ?_ _ ?_
    · exact ss_start (c := ⟨⟨K, mg, a, l, ns, T, none⟩, E0, fun _ _ _ => False⟩) lv pa da pn fun _ _ _ _ _ _ _ _ _ _ _ _ _ _ z => z
    · refine ⟨fun av' o Γ n' σ H' S' q => ?_, fun av' v H' d n' sub st p h1 q => ?_, fun _ _ _ _ _ _ _ z => z, fun _ _ _ _ _ _ _ z => z⟩
      · exact hq .non H' .non (kp_pen S'.kp) (S'.pen.less q.2) .non q.1
      · exact hq v H' d (kp_pen st) (p.less q.2) (h1.less sub) q.1
end
end Pb
namespace Pb
open PySem PySem.Spec PyProof.Rows L2
open PySem.Builtin PySem.Builtin.Str

/-! ### repr: how long, which signs -/
def okC (x : PySem.Str) : Prop := ∀ s ∈ x.cps.toList, s < 1114112
theorem okC_app {x y : PySem.Str} (h1 : okC x) (h2 : okC y) : okC (x ++ y) := fun s hs => by
  rw [app_list] at hs
  exact (List.mem_append.mp hs).elim (h1 s) (h2 s)
theorem char_lt (ch : Char) : ch.toNat < 1114112 := by
  have h := ch.valid
  unfold UInt32.isValidChar Nat.isValidChar at h
  show ch.val.toNat < 1114112
  omega
theorem okC_of (s : String) : okC (Str.ofString s) := fun c hc => by
  have e : (Str.ofString s).cps.toList = s.toList.map Char.toNat := cpsOfBytes_string s
  rw [e, List.mem_map] at hc
  obtain ⟨ch, _, rfl⟩ := hc
  exact char_lt ch
theorem tf_len : ∀ (ts : List PySem.Str) (k : Nat) (acc : PySem.Str), (textFrom k acc ts).length ≤ acc.length + (ts.map fun t => t.length + 2).sum
  | [], k, acc => by simp [textFrom]
  | t :: r, k, acc => by
    have ih := tf_len r (k + 1) (acc ++ (if k > 0 then ", " else "" : String) ++ t)
    rw [Str.length_append, Str.length_append] at ih
    have e : (Str.ofString (if k > 0 then ", " else "" : String)).length ≤ 2 := by split <;> decide
    show (textFrom (k + 1) (acc ++ (if k > 0 then ", " else "" : String) ++ t) r).length ≤ _
    rw [List.map_cons, List.sum_cons]
    omega
theorem tf_chr : ∀ (ts : List PySem.Str) (k : Nat) (acc : PySem.Str), okC acc → (∀ t ∈ ts, okC t) → okC (textFrom k acc ts)
  | [], k, acc, h, _ => h
  | t :: r, k, acc, h, ht => tf_chr r (k + 1) _ (okC_app (okC_app h (okC_of _)) (ht t (by simp))) fun u hu => ht u (by simp [hu])
theorem jn_len : ∀ (ts : List PySem.Str), (Str.join ", " ts).length ≤ (ts.map fun t => t.length + 2).sum
  | [] => by simp [Str.join]; rfl
  | [x] => by simp [Str.join]
  | x :: y :: r => by
    have ih := jn_len (y :: r)
    show (x ++ ", " ++ Str.join ", " (y :: r)).length ≤ _
    rw [Str.length_append, Str.length_append, List.map_cons, List.sum_cons]
    have e : (Str.ofString ", ").length = 2 := rfl
    omega
theorem jn_chr : ∀ (ts : List PySem.Str), (∀ t ∈ ts, okC t) → okC (Str.join ", " ts)
  | [], _ => fun s hs => by simp [Str.join, Str.empty] at hs
  | [x], h => h x (by simp)
  | x :: y :: r, h => okC_app (okC_app (h x (by simp)) (okC_of _)) (jn_chr (y :: r) fun t ht => h t (by simp [ht]))
theorem rc_chr {q c : Nat} (hq : q < 1114112) (hc : c < 1114112) : ∀ s ∈ reprChar q c, s < 1114112 := by
  have hx : ∀ w, ∀ s ∈ List.replicate w 48 ++ (Nat.toDigits 16 c).map Char.toNat, s < 1114112 := fun w s hs => by
    rcases List.mem_append.mp hs with h | h
    · have := (List.mem_replicate.mp h).2
      omega
    · obtain ⟨ch, _, rfl⟩ := List.mem_map.mp h
      exact char_lt ch
  intro s hs
  unfold reprChar at hs
  dsimp only at hs
  repeat' split at hs
  all_goals first
    | (rcases List.mem_append.mp hs with h | h
       · simp at h
         omega
       · exact hx _ s h)
    | (simp at hs
       omega)
theorem fold_chr (q : Nat) (hq : q < 1114112) : ∀ (l : List Nat) (acc : Array Nat), (∀ c ∈ l, c < 1114112) → (∀ c ∈ acc.toList, c < 1114112) → ∀ s ∈ (l.foldl (fun out c => out ++ (reprChar q c).toArray) acc).toList, s < 1114112
  | [], acc, _, h, s, hs => h s hs
  | c :: r, acc, hl, h, s, hs => by
    refine fold_chr q hq r _ (fun d hd => hl d (by simp [hd])) (fun d hd => ?_) s hs
    simp only [Array.toList_append, List.mem_append] at hd
    rcases hd with hd | hd
    · exact h d hd
    · exact rc_chr hq (hl c (by simp)) d hd
theorem rt_chr {x : PySem.Str} (h : okC x) : okC (reprText x) := by
  intro s hs
  have hq : reprQuote x < 1114112 := by
    unfold reprQuote
    split <;> decide
  unfold reprText at hs
  simp only [Array.toList_push, List.mem_append, List.mem_singleton] at hs
  rcases hs with hs | hs
  · rw [← Array.foldl_toList] at hs
    exact fold_chr _ hq _ _ h (fun c hc => by simp at hc; omega) s hs
  · omega
/-! ### data that repr takes -/
def okCb (x : PySem.Str) : Bool := x.cps.toList.all fun s => decide (s < 1114112)
theorem okCb_ok {x : PySem.Str} (h : okCb x = true) : okC x := fun s hs => of_decide_eq_true (List.all_eq_true.mp h s hs)
theorem okCb_of {x : PySem.Str} (h : okC x) : okCb x = true := List.all_eq_true.mpr fun s hs => decide_eq_true (h s hs)
def keyRo : Key → Bool
  | .inl i => decide (i.natAbs.log2 < 1920)
  | .inr x => okCb x
def keyRw : Key → Nat
  | .inl _ => 1921
  | .inr x => 10 * x.length + 2
mutual
def Dt.ro : Nat → Dt → Bool
  | _, .non => true
  | _, .bl _ => true
  | _, .int i => decide (i.natAbs.log2 < 1920)
  | _, .str x => okCb x
  | k + 1, .lst xs => Dt.ros k xs
  | k + 1, .tup xs => Dt.ros k xs
  | k + 1, .dic ks xs => ks.all keyRo && Dt.ros k xs
  | _, _ => false
def Dt.ros : Nat → List Dt → Bool
  | _, [] => true
  | k, x :: xs => Dt.ro k x && Dt.ros k xs
end
mutual
def Dt.rw : Dt → Nat
  | .non => 4
  | .bl _ => 5
  | .int _ => 1921
  | .str x => 10 * x.length + 2
  | .lst xs => 2 + Dt.rws xs
  | .tup xs => 3 + Dt.rws xs
  | .dic ks xs => 2 + (ks.map fun q => keyRw q + 2).sum + Dt.rws xs
  | _ => 0
def Dt.rws : List Dt → Nat
  | [] => 0
  | x :: xs => Dt.rw x + 2 + Dt.rws xs
end
theorem int_sh {i : Int} (h : i.natAbs.log2 < 1920) : (Str.ofString (toString i)).length ≤ 1921 := PyProof.Rows.int_text_len_1921 h
theorem str_sh {x : PySem.Str} (h : okC x) : (reprText x).length ≤ 10 * x.length + 2 := StrLaws.reprText_len x fun c hc => Nat.lt_trans (h c hc) (by decide)
theorem key_sh {q : Key} (h : keyRo q = true) : (keyP q).showable = true ∧ (keyP q).depth = 0 ∧ (keyP q).shown.length ≤ keyRw q ∧ okC (keyP q).shown := by
  cases q with
  | inl i =>
    have h' := of_decide_eq_true h
    exact ⟨decide_eq_true h', rfl, int_sh h', okC_of _⟩
  | inr x =>
    have h' := okCb_ok h
    exact ⟨rfl, rfl, str_sh h', rt_chr h'⟩
theorem kv_sh : ∀ (ks : List Key) (es : List PyData) (k w : Nat), ks.all keyRo = true → PyData.showableAll es = true → PyData.depthAll es ≤ k → ((PyData.shownAll es).map fun t => t.length + 2).sum ≤ w → (∀ t ∈ PyData.shownAll es, okC t) →
    PyData.showableKv ((ks.map keyP).zip es) = true ∧ PyData.depthKv ((ks.map keyP).zip es) ≤ k ∧ ((PyData.shownKv ((ks.map keyP).zip es)).map fun t => t.length + 2).sum ≤ (ks.map fun q => keyRw q + 2).sum + w ∧ ∀ t ∈ PyData.shownKv ((ks.map keyP).zip es), okC t
  | [], es, k, w, _, _, _, _, _ => ⟨by simp [PyData.showableKv], by simp [PyData.depthKv], by simp [PyData.shownKv], by simp [PyData.shownKv]⟩
  | q :: ks, [], k, w, _, _, _, _, _ => ⟨by simp [PyData.showableKv], by simp [PyData.depthKv], by simp [PyData.shownKv], by simp [PyData.shownKv]⟩
  | q :: ks, e :: es, k, w, h1, h2, h3, h4, h5 => by
    rw [List.all_cons, Bool.and_eq_true] at h1
    have h2' : e.showable = true ∧ PyData.showableAll es = true := by simpa [PyData.showableAll] using h2
    have h3' : e.depth ≤ k ∧ PyData.depthAll es ≤ k := by
      simp only [PyData.depthAll] at h3
      omega
    simp only [PyData.shownAll, List.map_cons, List.sum_cons] at h4
    have h5a : okC e.shown := h5 _ (by simp [PyData.shownAll])
    have h5b : ∀ t ∈ PyData.shownAll es, okC t := fun t ht => h5 t (by simp [PyData.shownAll, ht])
    obtain ⟨a1, a2, a3, a4⟩ := key_sh h1.1
    obtain ⟨b1, b2, b3, b4⟩ := kv_sh ks es k (w - (e.shown.length + 2)) h1.2 h2'.2 h3'.2 (by omega) h5b
    rw [List.map_cons, List.zip_cons_cons]
    refine ⟨by simp [PyData.showableKv, a1, h2'.1, b1], ?_, ?_, ?_⟩
    · simp only [PyData.depthKv]
      rw [a2]
      omega
    · simp only [PyData.shownKv, List.map_cons, List.sum_cons]
      rw [Str.length_append, Str.length_append]
      have e2 : (Str.ofString ": ").length = 2 := rfl
      omega
    · intro t ht
      simp only [PyData.shownKv, List.mem_cons] at ht
      rcases ht with rfl | ht
      · exact okC_app (okC_app a4 (okC_of _)) h5a
      · exact b4 t ht
mutual
theorem ro_sh : ∀ (k : Nat) (d : Dt), d.ro k = true → ∃ e, d.pyd = some e ∧ e.showable = true ∧ e.depth ≤ k ∧ e.shown.length ≤ d.rw ∧ okC e.shown
  | _, .non, _ => ⟨.none, rfl, rfl, Nat.zero_le _, by simp only [PyData.shown, Dt.rw]; decide, okC_of _⟩
  | _, .bl b, _ => ⟨.bool b, rfl, rfl, Nat.zero_le _, by cases b <;> simp only [PyData.shown, Dt.rw] <;> decide, by cases b <;> (simp only [PyData.shown]; exact okC_of _)⟩
  | _, .int i, h => by
    have h' : i.natAbs.log2 < 1920 := by simpa [Dt.ro] using h
    exact ⟨.int i, rfl, by simpa [PyData.showable] using h', Nat.zero_le _, by simp only [PyData.shown, Dt.rw]; exact int_sh h', okC_of _⟩
  | _, .str x, h => by
    have h' : okC x := okCb_ok (by simpa [Dt.ro] using h)
    exact ⟨.str x, rfl, rfl, Nat.zero_le _, by simp only [PyData.shown, Dt.rw]; exact str_sh h', by simp only [PyData.shown]; exact rt_chr h'⟩
  | 0, .lst xs, h => by simp [Dt.ro] at h
  | 0, .tup xs, h => by simp [Dt.ro] at h
  | 0, .dic _ xs, h => by simp [Dt.ro] at h
  | k + 1, .lst xs, h => by
    obtain ⟨es, h1, h2, h3, h4, h5⟩ := ros_sh k xs (by simpa [Dt.ro] using h)
    refine ⟨.list es, ?_, by simpa [PyData.showable] using h2, by simpa [PyData.depth] using h3, ?_, ?_⟩
    · show (Dt.pydAll xs).map PyData.list = _
      rw [h1]; rfl
    · simp only [PyData.shown, Dt.rw]
      unfold listText
      rw [Str.length_append]
      have a := tf_len (PyData.shownAll es) 0 "["
      have e1 : (Str.ofString "[").length = 1 := rfl
      have e2 : (Str.ofString "]").length = 1 := rfl
      omega
    · simp only [PyData.shown]
      exact okC_app (tf_chr _ _ _ (okC_of _) h5) (okC_of _)
  | k + 1, .tup xs, h => by
    obtain ⟨es, h1, h2, h3, h4, h5⟩ := ros_sh k xs (by simpa [Dt.ro] using h)
    refine ⟨.tuple es, ?_, by simpa [PyData.showable] using h2, by simpa [PyData.depth] using h3, ?_, ?_⟩
    · show (Dt.pydAll xs).map PyData.tuple = _
      rw [h1]; rfl
    · simp only [PyData.shown, Dt.rw]
      unfold tupleText
      rw [Str.length_append, Str.length_append]
      have a := jn_len (PyData.shownAll es)
      have e1 : (Str.ofString "(").length = 1 := rfl
      have e2 : (Str.ofString (if (PyData.shownAll es).length == 1 then ",)" else ")" : String)).length ≤ 2 := by split <;> decide
      omega
    · simp only [PyData.shown]
      exact okC_app (okC_app (okC_of _) (jn_chr _ h5)) (okC_of _)
  | k + 1, .dic ks xs, h => by
    have h' : ks.all keyRo = true ∧ Dt.ros k xs = true := by simpa [Dt.ro] using h
    obtain ⟨es, h1, h2, h3, h4, h5⟩ := ros_sh k xs h'.2
    obtain ⟨b1, b2, b3, b4⟩ := kv_sh ks es k (Dt.rws xs) h'.1 h2 h3 h4 h5
    refine ⟨.dict ((ks.map keyP).zip es), ?_, by simpa [PyData.showable] using b1, by simpa [PyData.depth] using b2, ?_, ?_⟩
    · show (Dt.pydAll xs).map _ = _
      rw [h1]; rfl
    · simp only [PyData.shown, Dt.rw]
      unfold dictText
      rw [Str.length_append, Str.length_append]
      have a := jn_len (PyData.shownKv ((ks.map keyP).zip es))
      have e1 : (Str.ofString "{").length = 1 := rfl
      have e2 : (Str.ofString "}").length = 1 := rfl
      omega
    · simp only [PyData.shown]
      exact okC_app (okC_app (okC_of _) (jn_chr _ b4)) (okC_of _)
  | _, .obj _ _ _, h => by simp [Dt.ro] at h
  | _, .err _ _ _, h => by simp [Dt.ro] at h
  | _, .pen, h => by simp [Dt.ro] at h
theorem ros_sh : ∀ (k : Nat) (ds : List Dt), Dt.ros k ds = true → ∃ es, Dt.pydAll ds = some es ∧ PyData.showableAll es = true ∧ PyData.depthAll es ≤ k ∧ ((PyData.shownAll es).map fun t => t.length + 2).sum ≤ Dt.rws ds ∧ ∀ t ∈ PyData.shownAll es, okC t
  | _, [], _ => ⟨[], rfl, rfl, Nat.zero_le _, by simp [PyData.shownAll], by simp [PyData.shownAll]⟩
  | k, d :: ds, h => by
    have h' : d.ro k = true ∧ Dt.ros k ds = true := by simpa [Dt.ros] using h
    obtain ⟨e, h1, h2, h3, h4, h5⟩ := ro_sh k d h'.1
    obtain ⟨es, a1, a2, a3, a4, a5⟩ := ros_sh k ds h'.2
    refine ⟨e :: es, ?_, by simp [PyData.showableAll, h2, a2], by simp only [PyData.depthAll]; omega, ?_, ?_⟩
    · show ((Dt.pyd d).bind fun x => (Dt.pydAll ds).map fun xs => x :: xs) = _
      rw [h1, a1]; rfl
    · simp only [PyData.shownAll, List.map_cons, List.sum_cons, Dt.rws]
      omega
    · intro t ht
      simp only [PyData.shownAll, List.mem_cons] at ht
      rcases ht with rfl | ht
      · exact h5
      · exact a5 t ht
end
/-- repr's text -/
def Dt.sh (d : Dt) : PySem.Str := match d.pyd with
  | some e => e.shown
  | none => ""
theorem sh_ok {k : Nat} {d : Dt} (h : d.ro k = true) : d.sh.length ≤ d.rw ∧ okC d.sh := by
  obtain ⟨e, h1, _, _, h4, h5⟩ := ro_sh k d h
  have q : d.sh = e.shown := by unfold Dt.sh; rw [h1]
  rw [q]
  exact ⟨h4, h5⟩
theorem c_reprD {c : Fc} {k : Kd} {n : Nat} {d : Dt} {j : Nat} (hs : ∃ o, c.K.lookup sysModules = some o) (hd : d.ro j = true) (hj : j ≤ 100) (hz : d.rw ≤ 16777216) (h : k (.str d.sh) n) : RCD c (rRepr c.K) [d] n k := by
  obtain ⟨e, h1, h2, h3, h4, h5⟩ := ro_sh j d hd
  have q : d.sh = e.shown := by unfold Dt.sh; rw [h1]
  refine c_repr h1 (fun _ => hs) ?_ (Nat.ble_eq_true_of_le (Nat.le_trans h4 hz)) (by rw [← q]; exact h)
  unfold shows
  rw [h2, decide_eq_true (by omega)]
  rfl
end Pb
namespace Pb
open PySem PySem.Spec PyProof.Rows L2

/-- a def that may raise, called where it does not -/
theorem passX0 {X : Cx} : Passes (L2.CX X.prog X.w) X E0 := fun _ _ _ _ _ _ _ h => by
  obtain ⟨_, _, _, _, _, _, _, _, _, _, _, _, z⟩ := h
  exact z.elim
/-- .. called in the body of a lambda, or of a def that lets errors out -/
theorem passE {X : Cx} {E : XK} (tk : Takes X (fun cls d _ H => E cls d H)) : Passes (L2.CX X.prog X.w) X E := passes_call tk fun _ _ _ _ h => h
section
variable {P : Program} {w : World} {K : PySem.W.Frag} {mg : Str → Option Value} {T : List (Addr × Str)} {base : Heap} {x qual : Str} {params : Arguments} {body : List Stmt} {scope : Scope} {dvs : List V} {kws : List (Str × V)} {f : Addr} {fd : FuncData}
/-- a maker's code object -/
theorem maker_code (F : FunD K x qual params body scope dvs kws f fd) {p : He.Defn} (hp : He.fAd K p = f) : fd.code = .ref (He.cT K p).1 := by
  obtain ⟨oc, od, dV, kV, doc, pm, an, cdv, ct, osl, rfl, lk, hcd, _, _⟩ := F.ex
  obtain ⟨c, rfl⟩ := He.codeIn_ref hcd
  have e := He.codeOf_eq (K := K) (p := p) (c := c) (by rw [hp]; exact lk) rfl
  show Value.ref c = .ref (He.codeOf K p)
  rw [e]
/-- THE RULE for a def that makes lambdas: its code object is known -/
theorem okD0m {b : Bool} {N ps : List Str} {k : Nat} {S : Sp1} (F : FunD K x qual params body scope dvs kws f fd) (sc : FnScope N ps scope) (len : ∀ ds, S.pre ds → ds.length = ps.length) (hne : ∀ ds, S.pre ds → Dt.nes ds = true)
    (hbody : ∀ (A : Around) (outer : List Env) (s : Shared) (H : Hp) (E : XK), RoomG b k (A.deeper (envOfC qual scope s.heap.objs.size f fd.code)) →
      ∃ t, PSs (cxOf CX0 P w K mg base N qual scope f fd.code A outer s H E).nox body t ∧ ∀ (c : Fc), c.K = K → c.mg = mg → c.T = T → c.er = none → ∀ (ds : List Dt) (n : Nat), S.pre ds → Ws c (gam N ds) (n + S.cost) t (ndOf S ds n)) :
    FnG b P w K mg base CX0 (k + 1) f fd ps (spD K mg T S) := by
  obtain ⟨oc, od, dV, kV, doc, pm, an, cdv, ct, osl, rfl, lk, hcd, _, _⟩ := F.ex
  refine fnG_of lk hcd sc (fun vs H Q E h => ?_) fun A outer s H vs Q E hr h => ?_
  · obtain ⟨a, l, ns, er, av, n, ds, _, _, da, _, hp, _⟩ := h
    rw [da.length]
    exact len ds hp
  · obtain ⟨a, l, ns, av, n, ds, lv, pa, da, pn, hp, hq⟩ := spD_none hne h
    obtain ⟨t, ht, hw⟩ := hbody A outer s H E hr
    refine ⟨t, ht.nox, ?_⟩
    refine hw ⟨⟨K, mg, a, l, ns, T, none⟩, E0, fun _ _ _ => False⟩ rfl rfl rfl rfl ds n hp (rootOf a H av (gam N ds).length) av (fun _ => 0) (L2.start N vs) H ?_ _ ?_
    · exact ss_start (c := ⟨⟨K, mg, a, l, ns, T, none⟩, E0, fun _ _ _ => False⟩) lv pa da pn fun _ _ _ _ _ _ _ _ _ _ _ _ _ _ z => z
    · refine ⟨fun av' o Γ n' σ H' S' q => ?_, fun av' v H' d n' sub st p h1 q => ?_, fun _ _ _ _ _ _ _ z => z, fun _ _ _ _ _ _ _ z => z⟩
      · exact hq .non H' .non (kp_pen S'.kp) (S'.pen.less q.2) .non q.1
      · exact hq v H' d (kp_pen st) (p.less q.2) (h1.less sub) q.1
end
/-- x(lambda: body), x a def of the text -/
theorem pe_hear {X : Cx} {T : List (Addr × Str)} {TT : (XK → Hp → VK → Prop) → Hp → VK → Prop} {x a : Str} {st : Stmt} {f c P : Addr} {fd : FuncData} {k : Nat} {Ng : List Str} {pm : Arguments} {body : Expr} {scope : Scope} {t : XK → TE} {p lpos pos : Pos} (F : Fd X.K x x st f fd) (hm : X.mg x = some (.ref f)) (hb : Binds X.K fd [a] [])
    (Sg : FnScope Ng [a] (defScope st)) (hNg : Ng[0]? = some a) (hva : Vis (defScope st) a) (hG : ∀ cdg, LamX.GivesTo X Ng x (defScope st) f cdg (defBody st) a (X.env.qual ++ "<lambda>") TT)
    (TB : LamX.TabB X.base X.mg c P) (hcode : X.env.code = .ref c) (hmT : (P, X.env.qual ++ "<lambda>") ∈ T) (hu : ∀ p ∈ T, p.1 = P → p.2 = X.env.qual ++ "<lambda>") (hr : Room (k + 2) X.A) (L : LamX.LamS X.env.scope scope)
    (hbody : ∀ (A : Around) (outer : List Env) (s : Shared) (H : Hp) (E : XK) (f c' : Addr), Room k (A.deeper (LamX.lamEnv X scope s.heap.objs.size f c')) → PE (LamX.lamCx X A outer s H E scope f c') body (t E)) (hg : Gl X x := by rfl)
    (hdef : defaultsOf pm X.env = ([], []) := by rfl)
    (hbind : ∀ (q : Str) (cl : List (Str × Addr)) (m cv ctv : Value), bindArgs (PySem.W.kla_fn "<lambda>" q pm body scope cl m cv ctv) ⟨[], []⟩ = pure [] := by intros; rfl)
    (hdb : (x == ("__debug__" : Str)) = false := by decide) (hd : (a == ("__debug__" : Str)) = false := by decide) (hcd : (a == ("__classdict__" : Str)) = false := by decide) :
    PE X (.Call (.Name x p) [.Lambda pm body scope lpos] [] pos) (LamX.tLam T TT t) := by
  have kp := F.kp
  obtain ⟨oc, od, dV, kV, doc, m, an, cdv, ct, osl, rfl, lk, hc, _, _⟩ := F.ex
  exact LamX.pe_lamcall hg hm kp lk hc hb Sg hNg hva (hG cdv) TB hcode hmT hu hr L hdef hbind hbody hdb hd hcd
/-! ### found.index(e) -/
theorem w_index {c : Fc} {Γ : List Sl} {n : Nat} {k : Kd} {to te : TE} (h : We c Γ n to fun d n1 => ∃ ds, d = .lst ds ∧ We c Γ n1 te fun e n2 => ∃ (j : Nat) (z : Dt), flatD e = true ∧ ds.all flatD = true ∧ ds[j]? = some z ∧ eqvD z e = true ∧ (∀ (m : Nat) (y : Dt), m < j → ds[m]? = some y → eqvD y e = false) ∧ k (.int (j : Nat)) n2) :
    We c Γ n (tBM c.K "list" (rIndex c.K) to (tCons te tNil)) k := by
  intro ρ av o σ H S Q hQ
  refine h ρ av o σ H S _ fun x H1 d1 n1 S1 x1 h1 k1 => ?_
  obtain ⟨ds, rfl, k1⟩ := k1
  cases h1 with
  | lst a1 a2 a3 =>
    rename_i p vs
    refine ⟨.inl ⟨rfl, vs, SqL.of a2⟩, ?_⟩
    refine k1 ρ av o σ H1 S1 _ fun y H2 d2 n2 S2 x2 h2 k2 => ?_
    obtain ⟨j, z, f1, f2, hz, hzj, hno, k2⟩ := k2
    have a2' : H2 p = some (.lst vs) := x2 p _ (fun e => a1 (e ▸ S.pa)) a2 rfl
    have a3' := a3.keep (x2.kp S.pa)
    obtain ⟨zv, q1, q2⟩ := a3'.get hz
    have fz : flatD z = true := List.all_eq_true.mp f2 z (List.mem_of_getElem? hz)
    refine ⟨p, vs, y, j, zv, rfl, rfl, SqL.of a2', flatD_ok f1 h2, (inD_ok f1 h2 a3' f2).1, q1, ?_, fun m zv' hm hv => ?_, hQ _ H2 _ n2 S2 (x1.trans x2) (.int _) k2⟩
    · rw [eqvD_ok fz f1 q2 h2]
      exact hzj
    · obtain ⟨z', r1, r2⟩ := a3'.get2 hv
      have fz' : flatD z' = true := List.all_eq_true.mp f2 z' (List.mem_of_getElem? r1)
      rw [eqvD_ok fz' f1 r2 h2]
      exact hno m z' hm r1
end Pb
namespace Pb
open PySem PySem.Spec PyProof.Rows L2 HT

/-! ### t[::-1] of a tuple -/
section
variable {prog : Program} {w : World} {A : Around} {E : Value → Shared → Prop} {s : Shared}
theorem adjust_rev (n : Nat) : Builtin.Slice.sliceAdjust none none (-1) (n : Int) = ((n : Int) - 1, -1) := by
  unfold Builtin.Slice.sliceAdjust
  rfl
theorem places_rev (n : Nat) : Builtin.Slice.slicePlaces ((n : Int) - 1) (-1) (-1) = n := by
  unfold Builtin.Slice.slicePlaces
  have h1 : ¬ ((-1 : Int) > 0) := by decide
  rw [if_neg h1]
  split
  · rw [show (-(-1) : Int) = 1 by decide, Int.ediv_one]
    omega
  · omega
theorem sliceApplied_rev {sl : Addr} {vl vu vs : Value} {n : Nat} {Q : Int × Int × Nat → Shared → Prop} (hs : s.heap.IsSliceOf sl vl vu vs) (pl : IsPart vl none) (pu : IsPart vu none) (ps : IsPart vs (some (-1)))
    (h : Q ((n : Int) - 1, -1, n) s) : wpAny (model prog w) A (Builtin.Slice.sliceApplied (.ref sl) (pure (n : Int))) Q E s := by
  obtain ⟨os, hos, hcs, hds⟩ := id hs
  unfold Builtin.Slice.sliceApplied Builtin.Slice.sliceFields
  refine wpAny_bind (wpAny_bind (wpAny_field hos hds (x := vl) rfl (wpAny_bind (wpAny_field hos hds (x := vu) rfl (wpAny_bind (wpAny_field hos hds (x := vs) rfl (wpAny_pure ?_)))))))
  refine wpAny_bind (slicePart_ ps ?_)
  show wpAny _ _ (if ((-1 : Int) == 0) = true then _ else _) _ _ s
  rw [if_neg (by decide)]
  refine wpAny_bind (slicePart_ pl (wpAny_bind (slicePart_ pu (wpAny_bind (wpAny_pure ?_)))))
  show wpAny _ _ (match Builtin.Slice.sliceAdjust none none (-1) (n : Int) with | (lo, hi) => pure (lo, (-1 : Int), Builtin.Slice.slicePlaces lo hi (-1))) _ _ s
  rw [adjust_rev n]
  show wpAny _ _ (pure ((n : Int) - 1, (-1 : Int), Builtin.Slice.slicePlaces ((n : Int) - 1) (-1) (-1))) _ _ s
  rw [places_rev]
  exact wpAny_pure h
theorem fm_congr {α β : Type} {f g : α → Option β} : ∀ {l : List α}, (∀ x ∈ l, f x = g x) → l.filterMap f = l.filterMap g
  | [], _ => rfl
  | a :: l, h => by
    rw [List.filterMap_cons, List.filterMap_cons, h a (by simp), fm_congr fun x hx => h x (by simp [hx])]
theorem pick_rev (xs : Array Value) : ((List.range xs.size).filterMap fun (m : Nat) => xs[((xs.size : Int) - 1 + (m : Int) * -1).toNat]?).toArray = xs.toList.reverse.toArray := by
  congr 1
  have e : ∀ m ∈ List.range xs.size, xs[((xs.size : Int) - 1 + (m : Int) * -1).toNat]? = xs[xs.size - 1 - m]? := fun m hm => by
    have := List.mem_range.mp hm
    have : ((xs.size : Int) - 1 + (m : Int) * -1).toNat = xs.size - 1 - m := by omega
    rw [this]
  rw [fm_congr e]
  have e2 : (List.range xs.size).filterMap (fun m => xs[xs.size - 1 - m]?) = ((List.range xs.size).map (fun k => xs.size - 1 - k)).filterMap (xs[·]?) := by
    rw [List.filterMap_map]
    rfl
  rw [e2, PySem.W.krv_range, List.filterMap_reverse, PySem.W.krv_all]
theorem getItem_tuple_rev {t sl : Addr} {items : Array Value} {vl vu vs : Value} {Q : Value → Shared → Prop} (ht : IsTup s.heap t items) (hs : s.heap.IsSliceOf sl vl vu vs) (pl : IsPart vl none) (pu : IsPart vu none) (ps : IsPart vs (some (-1)))
    (h : Q (.ref s.heap.objs.size) { s with heap := s.heap.push { cls := .type "tuple", data := .seq items.toList.reverse.toArray } })
    (hsz : items.size ≤ sizeLine) : wpAny (model prog w) A (getItem (.ref t) (.ref sl)) Q E s := by
  have htake : sizeOk (.seq items.toList.reverse.toArray) := by
    show items.toList.reverse.toArray.size ≤ sizeLine
    rw [List.size_toArray, List.length_reverse, Array.length_toList]
    exact hsz
  obtain ⟨os, hos, hcs, hds⟩ := id hs
  have hTs : s.TypeIs (.ref sl) "slice" := ⟨os, hos, hcs⟩
  unfold getItem
  try with_reducible refine wpAny_holding ?_
  first | refine wpAny_bind (wpAny_pure ?_) | skip
  refine wpAny_bind (wpAny_sequenceKey ht.typeIs (by decide) ?_)
  refine wpAny_bind (wpAny_callSpecial?_slot (name := Str.ofString "__getitem__") ht.typeIs PyProof.Rows.slot_tuple_getitem
    (wpAny_call_entry PyProof.Rows.slot_tuple_getitem ht.typeIs entry_tuple_getitem ?_ (args_tuple_getitem _ _)))
  show wpAny _ _ (Builtin.Tuple.tupleItemsOf (.ref t) >>= _) _ _ s
  refine wpAny_bind (tupleItemsOf_ ht ?_)
  refine wpAny_bind (wpAny_typeOf hTs ?_)
  rw [if_pos (by decide)]
  refine wpAny_bind (sliceApplied_rev hs pl pu ps ?_)
  have hno : ¬ (((items.size : Int) - 1 == 0 && (-1 : Int) == 1 && items.size == items.size) = true) := by
    intro q
    rw [Bool.and_eq_true, Bool.and_eq_true] at q
    exact absurd q.1.2 (by decide)
  show wpAny _ _ (if ((items.size : Int) - 1 == 0 && (-1 : Int) == 1 && items.size == items.size) = true then _ else _) _ _ s
  rw [if_neg hno, pick_rev]
  first
    | exact wpAny_bind (m := Builtin.Tuple.tupleExact _) (wpAny_newObj_type (wpAny_pure ⟨_, rfl, wpAny_pure h⟩) htake)
    | exact wpAny_bind (m := Builtin.Tuple.tupleExact _) (wpAny_newObj_type (wpAny_bind (wpAny_pure (wpAny_pure ⟨_, rfl, wpAny_pure h⟩))) htake)
    | exact wpAny_bind (wpAny_bind (m := Builtin.Tuple.tupleExact _) (wpAny_newObj_type (wpAny_pure (wpAny_pure ⟨_, rfl, wpAny_pure h⟩)) htake))
    | exact wpAny_bind (wpAny_bind (m := Builtin.Tuple.tupleExact _) (wpAny_newObj_type (wpAny_pure ⟨_, rfl, wpAny_pure h⟩) htake))
end
section
variable {X : Cx}
/-- x[::-1], a list or a tuple -/
def tRev (K : PySem.W.Frag) (te : TE) : TE := fun σ H Q => te σ H fun x H1 => (∃ a xs, x = .ref a ∧ SqL K H1 a xs ∧ ∀ p, H1 p = none → Q (.ref p) (upd H1 p (.lst xs.reverse))) ∨ (∃ a xs, x = .ref a ∧ SqT K H1 a xs ∧ ∀ p, H1 p = none → Q (.ref p) (upd H1 p (.tup xs.reverse)))
theorem pe_rev {e : Expr} {te : TE} {k : Nat} {p1 p2 p3 pos : Pos} (he : PE X e te) : PE X (.Subscript e (.Slice none none (some (.UnaryOp .USub (.Constant (.int 1) k p1) p2)) p3) pos) (tRev X.K te) := by
  refine ⟨fun pins s σ H Q I h => ?_⟩
  refine Subscript_ (thn (he.run pins s σ H _ I h) fun v s1 ⟨x, H1, I1, r1, q1⟩ => ?_)
  have hst : PO X (some (.UnaryOp .USub (.Constant (.int 1) k p1) p2)) (tPart (tUn (rU fun i => .int (-i)) (tC (.int 1)))) := po_some (pe_un un_neg pe_int)
  refine wpAny_Slice (thn (po_none.run pins s1 σ H1 (fun o H2 => o = none ∧ H2 = H1) I1 ⟨rfl, rfl⟩) fun vl s2 ⟨l, H2, I2, pl, el, e2⟩ => ?_)
  subst el e2
  refine thn (po_none.run pins s2 σ H2 (fun o H3 => o = none ∧ H3 = H2) I2 ⟨rfl, rfl⟩) fun vu s3 ⟨u, H3, I3, pu, eu, e3⟩ => ?_
  subst eu e3
  refine thn (hst.run pins s3 σ H3 (fun o H4 => o = some (-1) ∧ H4 = H3) I3 ⟨1, rfl, -1, rfl, rfl, rfl⟩) fun vs s4 ⟨o, H4, I4, ps, eo, e4⟩ => ?_
  subst eo e4
  have I5 : Inv X pins σ H4 { s4 with heap := s4.heap.push { cls := .type "slice", data := .fields #[vl, vu, vs] } } := I4.kept (t' := s4.toks) fun b ob q => Heap.get?_push_of_some _ q
  rcases q1 with ⟨a, xs, ex, hx, q⟩ | ⟨a, xs, ex, hx, q⟩
  · subst ex
    cases r1
    obtain ⟨its, r, ht, hz⟩ := I5.list hx
    have hlen := r.length
    show wpAny (model X.prog X.w) X.A (subscriptTail e (.Slice none none (some (.UnaryOp .USub (.Constant (.int 1) k p1) p2)) p3) (.ref a) (.ref s4.heap.objs.size)) (EP X pins σ Q) X.xe { s4 with heap := s4.heap.push { cls := .type "slice", data := .fields #[vl, vu, vs] } }
    refine tail_any (ops := [.ref a, .ref s4.heap.objs.size]) ht.isList.typeIs (PySem.slot_list_getitem.lookup) ?_ (by with_unfolding_all rfl)
    refine wpAny_getItem_list_slice ht.isList (Heap.IsSliceOf.new _ vl vu vs) pl pu ps (by decide) ?_ (by rw [List.size_toArray]; omega)
    rw [PySem.W.krv_pick]
    refine ⟨.ref _, _, I5.laid (t' := s4.toks) (o := .lst xs.reverse) (fun b ob q => Heap.get?_push_of_some _ q) (Nat.le_refl _) ?_, rfl, q _ (I5.hok.fresh (Nat.le_refl _))⟩
    exact ⟨by rw [List.length_reverse]; exact hz, _, 0, r.reverse, Heap.get?_push_size _ rfl⟩
  · subst ex
    cases r1
    obtain ⟨its, r, ht, hz⟩ := I5.tuple hx
    have hlen := r.length
    show wpAny (model X.prog X.w) X.A (subscriptTail e (.Slice none none (some (.UnaryOp .USub (.Constant (.int 1) k p1) p2)) p3) (.ref a) (.ref s4.heap.objs.size)) (EP X pins σ Q) X.xe { s4 with heap := s4.heap.push { cls := .type "slice", data := .fields #[vl, vu, vs] } }
    refine tail_any (ops := [.ref a, .ref s4.heap.objs.size]) ht.typeIs (PyProof.Rows.slot_tuple_getitem.lookup) ?_ (by with_unfolding_all rfl)
    refine getItem_tuple_rev ht (Heap.IsSliceOf.new _ vl vu vs) pl pu ps ?_ (by rw [List.size_toArray]; omega)
    refine ⟨.ref _, _, I5.laid (t' := s4.toks) (o := .tup xs.reverse) (fun b ob q => Heap.get?_push_of_some _ q) (Nat.le_refl _) ?_, rfl, q _ (I5.hok.fresh (Nat.le_refl _))⟩
    exact ⟨by rw [List.length_reverse]; exact hz, _, r.reverse, IsTup.new _ _⟩
end
/-! ### t * 1 -/
theorem tuple_mulW1 (l : Addr) (items : Array Value) (n : Nat) (dd : Option Addr) (sl : Array (Option Value)) (u : Tok) :
    Meets (Builtin.«tuple.__mul__» ⟨[.ref l, .int 1 u], []⟩) (fun _ R s => s.heap.get? l = some { cls := .type "tuple", dict := dd, data := .seq items n, slots := sl } ∧
      R (.ok (.ret (Value.ref l))) s) :=
  .of_wp fun prog w A R s h => by
    obtain ⟨hp, g, d, tk, os⟩ := s
    obtain ⟨hl, h⟩ := h
    have f1 := AutoSeq1.idx_int
    wp_walk using wpAny_loadPart' hl
    exact ⟨_, rfl, h⟩
def rRepT1 (K : PySem.W.Frag) : R2 := fun x y H Q => ∃ l xs, x = .ref l ∧ y = .int 1 ∧ SqT K H l xs ∧ Q (.ref l) H
section
variable {X : Cx}
theorem op_repT1 : OpR X (binaryOp .Mult) (rRepT1 X.K) := by
  intro pins s σ H x y v u Q I rx ry h
  obtain ⟨l, xs, rfl, rfl, hT, q⟩ := h
  cases rx
  obtain ⟨t, rfl⟩ := ry
  obtain ⟨its, r, ⟨⟨cls, dd, data, sl⟩, ho, hc, n, hd⟩, hs⟩ := I.tuple hT
  simp only at hc hd
  subst hc hd
  refine wpAny_binaryOp_repeat_ref (T := "tuple") (U := "int") (by decide) ⟨_, ho, rfl⟩ (fun s' => typeIs_int s' 1 t) noFill_tuple_mul F.fills_int_mul F.slot_int_rmul repeat_tuple F.slot_int_index.lookup
    (call_meets F.slot_int_rmul (typeIs_int s 1 t) F.entry_int_rmul (F.args_int_rmul_2 _ _) (int_rmul_tuple 1 t l its.toArray n dd sl)
      ⟨ho, rfl, ⟨_, ho, rfl⟩, call_meets F.slot_tuple_mul ⟨_, ho, rfl⟩ F.entry_tuple_mul (F.args_tuple_mul_2 _ _) (tuple_mulW1 l its.toArray n dd sl t) ⟨ho, ?_⟩⟩)
  exact ⟨.ref l, H, I, rfl, q⟩
def rMulX (K : PySem.W.Frag) : R2 := fun x y H Q => rMul x y H Q ∨ rRepT K x y H Q ∨ rRepT1 K x y H Q
theorem o_mulX : OpR X (binaryOp .Mult) (rMulX X.K) := OpR.or o_mul (OpR.or op_repT op_repT1)
def rLtX (K : PySem.W.Frag) : R2 := fun x y H Q => rLt x y H Q ∨ rLtT K x y H Q
theorem o_ltX (hu : X.A.units < cLine) : OpR X (compareOp .Lt) (rLtX X.K) := OpR.or o_lt (op_ltT hu)
end
section
variable {c : Fc} {n : Nat} {k : Dt → Prop} {Γ : List Sl}
theorem r_or {r r' : R2} {d e : Dt} (h : R2D c n r d e k) : R2D c n (fun x y H Q => r x y H Q ∨ r' x y H Q) d e k := fun av H x y lv pa h1 h2 Q q => .inl (h av H x y lv pa h1 h2 Q q)
theorem r_mulXI {i j : Int} (hm : CMul i j) (h : k (.int (i * j))) : R2D c n (rMulX c.K) (.int i) (.int j) k := r_or (r_mulI hm h)
theorem r_mulXL {ds : List Dt} {m : Int} (h0 : -(2 ^ 63) ≤ m) (h1 : m < 2 ^ 63) (hz : szOk (ds.length * m.toNat) = true) (h : k (.lst (List.replicate m.toNat ds).flatten)) : R2D c n (rMulX c.K) (.lst ds) (.int m) k := r_or (r_mulL h0 h1 hz h)
theorem r_mulT {ds : List Dt} {m : Int} (h0 : 1 ≤ m) (h1 : m ≤ 1000) (hz : ds ≠ [] ∧ ds.length ≤ 1000) (h : k (.tup (List.replicate m.toNat ds).flatten)) : R2D c n (rMulX c.K) (.tup ds) (.int m) k := by
  intro av H x y lv pa a b Q q
  cases b
  cases a with
  | tup a2 a3 =>
    by_cases hm : m = 1
    · subst hm
      have e : (List.replicate (Int.toNat 1) ds).flatten = ds := by
        show (List.replicate 1 ds).flatten = ds
        simp
      rw [e] at h
      exact .inr (.inr ⟨_, _, rfl, rfl, a2.sq, q _ H _ (Same.refl H) (.tup a2 a3) h⟩)
    · refine .inr (.inl ⟨_, m, _, rfl, rfl, a2.sq, fun z => ?_, by omega, h1, by rw [a3.length]; exact hz.2, fun p hp => ?_⟩)
      · have := a3.length
        rw [z] at this
        exact hz.1 (List.eq_nil_of_length_eq_zero this.symm)
      · exact q _ _ _ (same_new hp) (Da.newT lv hp (a3.rep _)) h
theorem r_ltXI {i j : Int} (h : k (.bl (decide (i < j)))) : R2D c n (rLtX c.K) (.int i) (.int j) k := r_or (r_ltI h)
theorem r_ltXS {i j : Str} (h : k (.bl (decide (i.cps.toList < j.cps.toList)))) : R2D c n (rLtX c.K) (.str i) (.str j) k := r_or (r_ltS h)
def intsE : List Dt → Option (List Int)
  | [] => some []
  | .int b :: ds => (intsE ds).map (b :: ·)
  | _ => none
theorem intsE_ok : ∀ {ds : List Dt} {bs : List Int}, intsE ds = some bs → ds = bs.map Dt.int
  | [], _, h => by cases h; rfl
  | .int b :: ds, bs, h => by
    obtain ⟨cs, h1, rfl⟩ := Option.map_eq_some_iff.mp (show (intsE ds).map (b :: ·) = some bs from h)
    rw [intsE_ok h1]
    rfl
theorem intsE_map (bs : List Int) : intsE (bs.map Dt.int) = some bs := by
  induction bs with
  | nil => rfl
  | cons b bs ih =>
    show (intsE (bs.map Dt.int)).map (b :: ·) = _
    rw [ih]
    rfl
theorem DaAll.ints {c : Wc} {av : Addr → Prop} {H : Hp} : ∀ {bs : List Int} {vs : List V}, DaAll c av H vs (bs.map Dt.int) → vs = bs.map V.int
  | [], _, h => by cases h; rfl
  | b :: bs, _, h => by
    cases h with
    | cons h1 h2 =>
      cases h1
      rw [DaAll.ints h2]
      rfl
theorem r_ltT {xs ys : List Int} (h : k (.bl (HT.lexLt xs ys))) : R2D c n (rLtX c.K) (.tup (xs.map Dt.int)) (.tup (ys.map Dt.int)) k := by
  intro av H x y lv pa h1 h2 Q q
  cases h1 with
  | tup a2 a3 =>
    cases h2 with
    | tup b2 b3 =>
      have e1 := a3.ints
      have e2 := b3.ints
      subst e1 e2
      exact .inr ⟨_, _, xs, ys, rfl, rfl, a2.sq, b2.sq, q _ H _ (Same.refl H) (.bl _) h⟩
theorem DaAll.rev {c : Wc} {av : Addr → Prop} {H : Hp} : ∀ {vs : List V} {ds : List Dt}, DaAll c av H vs ds → DaAll c av H vs.reverse ds.reverse
  | _, _, .nil => .nil
  | _, _, .cons h t => by
    rw [List.reverse_cons, List.reverse_cons]
    exact (DaAll.rev t).append (.cons h .nil)
def revE : Dt → Option Dt
  | .lst ds => some (.lst ds.reverse)
  | .tup ds => some (.tup ds.reverse)
  | _ => none
theorem w_rev {te : TE} {k : Kd} {n : Nat} (h : We c Γ n te fun d m => ∃ e, revE d = some e ∧ k e m) : We c Γ n (tRev c.K te) k := by
  intro ρ av o σ H S Q hQ
  refine h ρ av o σ H S _ fun x H1 d1 n1 S1 x1 h1 k1 => ?_
  obtain ⟨e, he, k1⟩ := k1
  cases h1 with
  | lst a1 a2 a3 =>
    cases he
    refine .inl ⟨_, _, rfl, SqL.of a2, fun p hp => ?_⟩
    exact hQ _ _ _ n1 (S1.same (same_new hp)) (x1.trans (Stp.same (same_new hp))) (Da.newL S1.live hp a3.rev) k1
  | tup a2 a3 =>
    cases he
    refine .inr ⟨_, _, rfl, a2.sq, fun p hp => ?_⟩
    exact hQ _ _ _ n1 (S1.same (same_new hp)) (x1.trans (Stp.same (same_new hp))) (Da.newT S1.live hp a3.rev) k1
  | _ => cases he
theorem SS.toOwn {ρ : Rt} {av : Addr → Prop} {o : Nat → Addr} {σ : L2.St} {H H' : Hp} {n m i : Nat} {p : Addr} {vs : List V} {ds : List Dt} (S : SS c ρ av o Γ n σ H) (S' : SS c ρ (fun q => av q ∨ q = p) o Γ m σ H') (np : ¬ av p) (h0 : Fr ρ.H0 p) (hp : H' p = some (.lst vs)) (da : DaAll c.toWc (fun q => av q ∨ q = p) H' vs ds) :
    SS c ρ (fun q => av q ∨ q = p) (fun j => if j = i then p else o j) (Γ.set i (.ol false ds)) m (σ.set i (some (.ref p))) H' := by
  have old : ∀ (j : Nat) (s : Sl), (Γ.set i (.ol false ds))[j]? = some s → j ≠ i → Γ[j]? = some s := fun j s q hj => by
    rwa [List.getElem?_set_ne (Ne.symm hj)] at q
  have new : ∀ (s : Sl), (Γ.set i (.ol false ds))[i]? = some s → s = .ol false ds ∧ i < Γ.length := fun s q => by
    have hl : i < Γ.length := by
      have := (List.getElem?_eq_some_iff.mp q).1
      rwa [List.length_set] at this
    rw [List.getElem?_set_self hl] at q
    cases q
    exact ⟨rfl, hl⟩
  have npa : p ≠ c.a ∧ p ≠ c.l := ⟨fun z => np (z ▸ S.pa), fun z => S'.pl (.inr z.symm)⟩
  have nrv : ¬ ρ.rv p := fun z => np (S.rsub p z)
  exact {
    len := by rw [List.length_set, List.length_set]; exact S.len
    gl := by rw [List.length_set]; exact S.gl
    pa := S'.pa
    pl := S'.pl
    pm := S'.pm
    sub := S'.sub
    rsub := S'.rsub
    msub := S'.msub
    asub := S'.asub
    live := S'.live
    live0 := S'.live0
    pen := S'.pen
    kp := S'.kp
    ex := S'.ex
    dat := fun j d q => by
      by_cases hj : j = i
      · subst hj
        obtain ⟨z, _⟩ := new _ q
        cases z
      · obtain ⟨v, h1, h2⟩ := S'.dat j d (old j _ q hj)
        exact ⟨v, by rw [List.getElem?_set_ne (Ne.symm hj)]; exact h1, h2⟩
    own := fun j b es q => by
      by_cases hj : j = i
      · subst hj
        obtain ⟨z, hl⟩ := new _ q
        cases z
        rw [if_pos rfl]
        exact ⟨List.getElem?_set_self (by rw [S.len]; exact hl), .inr rfl, ⟨h0, fun z => np (S.msub p z)⟩, npa, nrv, vs, hp, da⟩
      · obtain ⟨h1, h2, h3, h4, h00, ws, h5, h6⟩ := S'.own j b es (old j _ q hj)
        rw [if_neg hj]
        exact ⟨by rw [List.getElem?_set_ne (Ne.symm hj)]; exact h1, h2, h3, h4, h00, ws, h5, h6⟩
    inj := fun j l b b' es fs q r e => by
      by_cases hj : j = i
      · by_cases hl : l = i
        · rw [hj, hl]
        · rw [if_pos hj, if_neg hl] at e
          exact absurd (e ▸ (S.own l b' fs (old l _ r hl)).2.1) np
      · by_cases hl : l = i
        · rw [if_neg hj, if_pos hl] at e
          exact absurd (e ▸ (S.own j b es (old j _ q hj)).2.1) np
        · rw [if_neg hj, if_neg hl] at e
          exact S'.inj j l b b' es fs (old j _ q hj) (old l _ r hl) e }
/-- found, rest = [], e -/
theorem w_parO {i j : Nat} {tb : TE} {N : Nd} {n : Nat} (h : We c Γ n tb fun d m => N.nx ((Γ.set i (.ol false [])).set j (.da d)) m) : Ws c Γ n (tPar i j (tCons (tLst tNil) (tCons tb tNil))) N := by
  intro ρ av o σ H S D L
  refine ⟨szl rfl, fun p hp => ?_⟩
  have np : ¬ av p := S.live.new hp
  obtain ⟨npa, npl⟩ := S.pen.ne hp
  refine h ρ _ o σ _ (S.apart hp (.lst [])) _ fun y H2 d m S2 x2 h2 kk => ?_
  have h2p : H2 p = some (.lst []) := x2 p _ npa upd_same rfl
  refine ⟨.ref p, y, rfl, ?_⟩
  exact L.nx _ _ _ m _ H2 ((S.toOwn S2 np (S.fresh0 hp) h2p .nil).set j h2) kk
end
/-! ### keywords in another order than the parameters -/
abbrev gPm (ix : List Nat) : {α : Type} → List α → List α → List α := fun us ws => us ++ ix.filterMap fun i => ws[i]?
theorem vals_get : ∀ {zs : List V} {ws : List Value} (i : Nat), Vals zs ws → (zs[i]? = none ∧ ws[i]? = none) ∨ ∃ z w, zs[i]? = some z ∧ ws[i]? = some w ∧ RelV z w
  | _, _, i, .nil => .inl ⟨by simp, by simp⟩
  | _, _, 0, .cons h _ => .inr ⟨_, _, by simp, by simp, h⟩
  | _, _, i + 1, .cons _ t => by
    rcases vals_get i t with ⟨a, b⟩ | ⟨z, w, a, b, c⟩
    · exact .inl ⟨by simpa using a, by simpa using b⟩
    · exact .inr ⟨z, w, by simpa using a, by simpa using b, c⟩
theorem vals_pick {zs : List V} {ws : List Value} (h : Vals zs ws) : ∀ ix : List Nat, Vals (ix.filterMap fun i => zs[i]?) (ix.filterMap fun i => ws[i]?)
  | [] => .nil
  | i :: ix => by
    rcases vals_get i h with ⟨a, b⟩ | ⟨z, w, a, b, c⟩
    · rw [List.filterMap_cons, List.filterMap_cons, a, b]; exact vals_pick h ix
    · rw [List.filterMap_cons, List.filterMap_cons, a, b]; exact .cons c (vals_pick h ix)
theorem rel_pm (ix : List Nat) {vs zs : List V} {us ws : List Value} (h1 : Vals vs us) (h2 : Vals zs ws) : Vals (gPm ix vs zs) (gPm ix us ws) := h1.append (vals_pick h2 ix)
theorem da_get {c : Wc} {av : Addr → Prop} {H : Hp} : ∀ {zs : List V} {ws : List Dt} (i : Nat), DaAll c av H zs ws → (zs[i]? = none ∧ ws[i]? = none) ∨ ∃ z w, zs[i]? = some z ∧ ws[i]? = some w ∧ Da c av H z w
  | _, _, i, .nil => .inl ⟨by simp, by simp⟩
  | _, _, 0, .cons h _ => .inr ⟨_, _, by simp, by simp, h⟩
  | _, _, i + 1, .cons _ t => by
    rcases da_get i t with ⟨a, b⟩ | ⟨z, w, a, b, c⟩
    · exact .inl ⟨by simpa using a, by simpa using b⟩
    · exact .inr ⟨z, w, by simpa using a, by simpa using b, c⟩
theorem da_pick {c : Wc} {av : Addr → Prop} {H : Hp} {zs : List V} {ws : List Dt} (h : DaAll c av H zs ws) : ∀ ix : List Nat, DaAll c av H (ix.filterMap fun i => zs[i]?) (ix.filterMap fun i => ws[i]?)
  | [] => .nil
  | i :: ix => by
    rcases da_get i h with ⟨a, b⟩ | ⟨z, w, a, b, c⟩
    · rw [List.filterMap_cons, List.filterMap_cons, a, b]; exact da_pick h ix
    · rw [List.filterMap_cons, List.filterMap_cons, a, b]; exact .cons c (da_pick h ix)
end Pb
namespace Pb
open PySem PySem.Spec PyProof.Rows L2

/-! ### evaluations: the draws that are left go in and come out -/
inductive Re (α : Type) where
  | ok (a : α)
  | ex (cn : Str) (es : List (Str × Dt))
abbrev Ev (α : Type) : Type := List Nat → Option (Re α × List Nat)
namespace Ev
variable {α β γ : Type}
def pure (a : α) : Ev α := fun l => some (.ok a, l)
def rais (cn : Str) (es : List (Str × Dt)) : Ev α := fun l => some (.ex cn es, l)
def stuck : Ev α := fun _ => none
def bind (f : Ev α) (g : α → Ev β) : Ev β := fun l => match f l with
  | some (.ok a, l') => g a l'
  | some (.ex cn es, l') => some (.ex cn es, l')
  | none => none
def of : Option α → Ev α
  | some a => pure a
  | none => stuck
def calm (f : Ev α) : Ev α := fun l => match f l with
  | some (.ok a, l') => some (.ok a, l')
  | _ => none
def catch_ (f : Ev α) (g : α → Ev β) (h : Str → List (Str × Dt) → Ev β) : Ev β := fun l => match f l with
  | some (.ok a, l') => g a l'
  | some (.ex cn es, l') => h cn es l'
  | none => none
def draw (m : Int) : Ev Dt := fun l => if 0 < m ∧ m < 1073741824 then (match l with
  | x :: l => some (.ok (.int ((x : Int) % m)), l)
  | [] => none) else none
@[simp] theorem pure_bind (a : α) (g : α → Ev β) : (pure a).bind g = g a := rfl
@[simp] theorem rais_bind (cn : Str) (es : List (Str × Dt)) (g : α → Ev β) : (rais cn es : Ev α).bind g = rais cn es := rfl
@[simp] theorem stuck_bind (g : α → Ev β) : (stuck : Ev α).bind g = stuck := rfl
@[simp] theorem of_some (a : α) : of (some a) = pure a := rfl
@[simp] theorem of_none : (of none : Ev α) = stuck := rfl
@[simp] theorem calm_pure (a : α) : calm (pure a) = pure a := rfl
@[simp] theorem calm_stuck : calm (stuck : Ev α) = stuck := rfl
@[simp] theorem catch_pure (a : α) (g : α → Ev β) (h : Str → List (Str × Dt) → Ev β) : catch_ (pure a) g h = g a := rfl
@[simp] theorem catch_rais (cn : Str) (es : List (Str × Dt)) (g : α → Ev β) (h : Str → List (Str × Dt) → Ev β) : catch_ (rais cn es) g h = h cn es := rfl
@[simp] theorem bind_assoc (f : Ev α) (g : α → Ev β) (h : β → Ev γ) : (f.bind g).bind h = f.bind fun a => (g a).bind h := by
  funext l
  show (match (match f l with | some (.ok a, l') => g a l' | some (.ex cn es, l') => some (.ex cn es, l') | none => none) with | some (.ok a, l') => h a l' | some (.ex cn es, l') => some (.ex cn es, l') | none => none) = _
  unfold bind
  cases f l with
  | none => rfl
  | some x =>
    obtain ⟨r, l'⟩ := x
    cases r <;> rfl
end Ev
/-- never stuck with n draws left -/
def NS {α : Type} (f : Ev α) (n : Nat) : Prop := ∀ l : List Nat, l.length = n → ∃ x, f l = some x
/-- some draws lead to r, with m left -/
def Hit {α : Type} (f : Ev α) (n : Nat) (r : Re α) (m : Nat) : Prop := ∃ u : List Nat, u.length + m = n ∧ ∀ l : List Nat, l.length = m → f (u ++ l) = some (r, l)
def EOk {α : Type} (c : Fc) (f : Ev α) (n : Nat) : Prop := NS f n ∧ ∀ cn es m, Hit f n (.ex cn es) m → c.xk cn es m
section
variable {α β : Type} {c : Fc} {f : Ev α} {g : α → Ev β} {n m m' : Nat} {a : α} {r : Re β}
theorem app_len {u l : List Nat} (h : u.length + m = n) (hl : l.length = m) : (u ++ l).length = n := by
  rw [List.length_append, hl]; exact h
theorem Hit.bind (h : Hit f n (.ok a) m) (h2 : Hit (g a) m r m') : Hit (f.bind g) n r m' := by
  obtain ⟨u, hu, e⟩ := h
  obtain ⟨v, hv, e2⟩ := h2
  refine ⟨u ++ v, by rw [List.length_append]; omega, fun l hl => ?_⟩
  rw [List.append_assoc]
  unfold Ev.bind
  rw [e (v ++ l) (app_len hv hl)]
  exact e2 l hl
theorem Hit.bindX {cn : Str} {es : List (Str × Dt)} (h : Hit f n (.ex cn es) m) : Hit (f.bind g) n (.ex cn es) m := by
  obtain ⟨u, hu, e⟩ := h
  refine ⟨u, hu, fun l hl => ?_⟩
  unfold Ev.bind
  rw [e l hl]
theorem EOk.bindL (h : EOk c (f.bind g) n) : EOk c f n := by
  refine ⟨fun l hl => ?_, fun cn es m q => h.2 cn es m q.bindX⟩
  obtain ⟨x, e⟩ := h.1 l hl
  unfold Ev.bind at e
  cases q : f l with
  | none => rw [q] at e; cases e
  | some y => exact ⟨y, rfl⟩
theorem EOk.bindR (h : EOk c (f.bind g) n) (q : Hit f n (.ok a) m) : EOk c (g a) m := by
  refine ⟨fun l hl => ?_, fun cn es m' q' => h.2 cn es m' (q.bind q')⟩
  obtain ⟨u, hu, e⟩ := q
  obtain ⟨x, e2⟩ := h.1 (u ++ l) (app_len hu hl)
  unfold Ev.bind at e2
  rw [e l hl] at e2
  exact ⟨x, e2⟩
theorem hit_pure : Hit (Ev.pure a) n (.ok a) n := ⟨[], Nat.zero_add n, fun l _ => rfl⟩
theorem hit_rais {cn : Str} {es : List (Str × Dt)} : Hit (Ev.rais cn es : Ev α) n (.ex cn es) n := ⟨[], Nat.zero_add n, fun l _ => rfl⟩
theorem lens (n : Nat) : ∃ l : List Nat, l.length = n := ⟨List.replicate n 0, List.length_replicate⟩
theorem EOk.of {o : Option α} (h : EOk c (Ev.of o) n) : ∃ a, o = some a := by
  obtain ⟨l, hl⟩ := lens n
  obtain ⟨x, e⟩ := h.1 l hl
  cases o with
  | none => cases e
  | some a => exact ⟨a, rfl⟩
theorem hit_of {o : Option α} (h : o = some a) : Hit (Ev.of o) n (.ok a) n := by rw [h]; exact hit_pure
theorem EOk.stuck (h : EOk c (Ev.stuck : Ev α) n) : False := by
  obtain ⟨l, hl⟩ := lens n
  obtain ⟨x, e⟩ := h.1 l hl
  cases e
theorem NS.calm (h : NS f.calm n) : NS f n ∧ ∀ cn es m, ¬ Hit f n (.ex cn es) m := by
  refine ⟨fun l hl => ?_, fun cn es m q => ?_⟩
  · obtain ⟨x, e⟩ := h l hl
    unfold Ev.calm at e
    cases q : f l with
    | none => rw [q] at e; cases e
    | some y => exact ⟨y, rfl⟩
  · obtain ⟨u, hu, e⟩ := q
    obtain ⟨l, hl⟩ := lens m
    obtain ⟨x, e2⟩ := h (u ++ l) (app_len hu hl)
    unfold Ev.calm at e2
    rw [e l hl] at e2
    cases e2
theorem Hit.calm (h : Hit f n (.ok a) m) : Hit f.calm n (.ok a) m := by
  obtain ⟨u, hu, e⟩ := h
  refine ⟨u, hu, fun l hl => ?_⟩
  unfold Ev.calm
  rw [e l hl]
theorem Hit.cat {g : α → Ev β} {h : Str → List (Str × Dt) → Ev β} (q : Hit f n (.ok a) m) (q2 : Hit (g a) m r m') : Hit (f.catch_ g h) n r m' := by
  obtain ⟨u, hu, e⟩ := q
  obtain ⟨v, hv, e2⟩ := q2
  refine ⟨u ++ v, by rw [List.length_append]; omega, fun l hl => ?_⟩
  rw [List.append_assoc]
  unfold Ev.catch_
  rw [e (v ++ l) (app_len hv hl)]
  exact e2 l hl
theorem Hit.catX {g : α → Ev β} {h : Str → List (Str × Dt) → Ev β} {cn : Str} {es : List (Str × Dt)} (q : Hit f n (.ex cn es) m) (q2 : Hit (h cn es) m r m') : Hit (f.catch_ g h) n r m' := by
  obtain ⟨u, hu, e⟩ := q
  obtain ⟨v, hv, e2⟩ := q2
  refine ⟨u ++ v, by rw [List.length_append]; omega, fun l hl => ?_⟩
  rw [List.append_assoc]
  unfold Ev.catch_
  rw [e (v ++ l) (app_len hv hl)]
  exact e2 l hl
theorem EOk.catN {g : α → Ev β} {h : Str → List (Str × Dt) → Ev β} (ok : EOk c (f.catch_ g h) n) : NS f n := fun l hl => by
  obtain ⟨x, e⟩ := ok.1 l hl
  unfold Ev.catch_ at e
  cases q : f l with
  | none => rw [q] at e; cases e
  | some y => exact ⟨y, rfl⟩
theorem EOk.catL {g : α → Ev β} {h : Str → List (Str × Dt) → Ev β} (ok : EOk c (f.catch_ g h) n) (q : Hit f n (.ok a) m) : EOk c (g a) m := by
  refine ⟨fun l hl => ?_, fun cn es m' q' => ok.2 cn es m' (q.cat q')⟩
  obtain ⟨u, hu, e⟩ := q
  obtain ⟨x, e2⟩ := ok.1 (u ++ l) (app_len hu hl)
  unfold Ev.catch_ at e2
  rw [e l hl] at e2
  exact ⟨x, e2⟩
theorem EOk.catR {g : α → Ev β} {h : Str → List (Str × Dt) → Ev β} {cn : Str} {es : List (Str × Dt)} (ok : EOk c (f.catch_ g h) n) (q : Hit f n (.ex cn es) m) : EOk c (h cn es) m := by
  refine ⟨fun l hl => ?_, fun cn' es' m' q' => ok.2 cn' es' m' (q.catX q')⟩
  obtain ⟨u, hu, e⟩ := q
  obtain ⟨x, e2⟩ := ok.1 (u ++ l) (app_len hu hl)
  unfold Ev.catch_ at e2
  rw [e l hl] at e2
  exact ⟨x, e2⟩
end
/-! ### calls by evaluations -/
def spE (K : PySem.W.Frag) (mg : Str → Option Value) (T : List (Addr × Str)) (F : List Dt → Ev Dt) : Sp := fun vs H Q E => ∃ (a l : Addr) (ns : List Int) (er : Option (Addr × Addr × Addr)) (av : Addr → Prop) (n : Nat) (ds : List Dt), Live av H ∧ (av a ∧ ¬ av l) ∧ DaAll ⟨K, mg, a, l, ns, T, er⟩ av H vs ds ∧ Pen a l ns T n H ∧ NS (F ds) n ∧
  (∀ v H' d m, Stp a H H' → Pen a l ns T m H' → Da ⟨K, mg, a, l, ns, T, er⟩ av H' v d → Hit (F ds) n (.ok d) m → Q v H') ∧
  (∀ (cn : Str) (C x : Addr) (H' : Hp) (fs : List (Str × V)) (es : List (Str × Dt)) (m : Nat), Stp a H H' → Pen a l ns T m H' → mg cn = some (.ref C) → ¬ av x → H' x = some (.xd fs) → fs.map (·.1) = es.map (·.1) → DaAll ⟨K, mg, a, l, ns, T, er⟩ av H' (fs.map (·.2)) (es.map (·.2)) → Hit (F ds) n (.ex cn es) m → E (.ref C) (some x) H')
theorem w_callE {c : Fc} {F : List Dt → Ev Dt} {ds : List Dt} {n : Nat} {k : Kd} (hp : NS (F ds) n) (hk : ∀ d m, Hit (F ds) n (.ok d) m → k d m) (hx : ∀ cn es m, Hit (F ds) n (.ex cn es) m → c.xk cn es m) :
    RCD c (fun vs H Q => spE c.K c.mg c.T F vs H Q c.E) ds n k := by
  intro ρ av H vs lv pa pm sub kp pn ex da Q q
  refine ⟨c.a, c.l, c.ns, c.er, av, n, ds, lv, pa, da, pn, hp, ?_, ?_⟩
  · intro v H' d m x p h1 h2
    exact q v H' d _ x p h1 (hk d m h2)
  · intro cn C x H' fs es m st p h1 nx h2 hn h3 h4
    exact ex cn C x H' fs es _ h1 (kp.trans (st.kp pm)) p (fun z => nx (sub x z)) h2 hn (h3.less sub) (hx cn es m h4)
theorem w_callE0 {c : Fc} {F : List Dt → Ev Dt} {ds : List Dt} {n : Nat} {k : Kd} {E : XK} (hp : NS (F ds) n) (hk : ∀ d m, Hit (F ds) n (.ok d) m → k d m) (hx : ∀ cn es m, ¬ Hit (F ds) n (.ex cn es) m) :
    RCD c (fun vs H Q => spE c.K c.mg c.T F vs H Q E) ds n k := by
  intro ρ av H vs lv pa pm sub kp pn ex da Q q
  refine ⟨c.a, c.l, c.ns, c.er, av, n, ds, lv, pa, da, pn, hp, ?_, ?_⟩
  · intro v H' d m x p h1 h2
    exact q v H' d _ x p h1 (hk d m h2)
  · intro cn C x H' fs es m st p h1 nx h2 hn h3 h4
    exact absurd h4 (hx cn es m)
/-- what is wanted behind a body -/
def ndE (f : Ev Dt) (n : Nat) : Nd := { nx := fun _ m => Hit f n (.ok .non) m, rt := fun d m => Hit f n (.ok d) m }
section
variable {P : Program} {w : World} {K : PySem.W.Frag} {mg : Str → Option Value} {T : List (Addr × Str)} {base : Heap} {x qual : Str} {params : Arguments} {body : List Stmt} {scope : Scope} {dvs : List V} {kws : List (Str × V)} {f : Addr} {fd : FuncData} {F : List Dt → Ev Dt}
/-- a def out of which nothing is raised -/
theorem okE0 {b : Bool} {N ps : List Str} {k : Nat} (Fd : FunD K x qual params body scope dvs kws f fd) (sc : FnScope N ps scope) (len : ∀ ds n, NS (F ds) n → ds.length = ps.length)
    (hbody : ∀ (cdv : Value) (A : Around) (outer : List Env) (s : Shared) (H : Hp) (E : XK), RoomG b k (A.deeper (envOfC qual scope s.heap.objs.size f cdv)) →
      ∃ t, PSs (cxOf CX0 P w K mg base N qual scope f cdv A outer s H E).nox body t ∧ ∀ (c : Fc), c.K = K → c.mg = mg → c.T = T → c.E = E0 → ∀ (ds : List Dt) (n : Nat), NS (F ds) n → Ws c (gam N ds) n t (ndE (F ds) n)) :
    FnG b P w K mg base CX0 (k + 1) f fd ps (spE K mg T F) := by
  refine okG0 Fd sc (fun vs H Q E h => ?_) fun cdv A outer s H vs Q E hr h => ?_
  · obtain ⟨a, l, ns, er, av, n, ds, _, _, da, _, hp, _⟩ := h
    rw [da.length]
    exact len ds n hp
  · obtain ⟨a, l, ns, er, av, n, ds, lv, pa, da, pn, hp, hq, _⟩ := h
    obtain ⟨t, ht, hw⟩ := hbody cdv A outer s H E hr
    refine ⟨t, ht, ?_⟩
    refine hw ⟨⟨K, mg, a, l, ns, T, er⟩, E0, fun _ _ _ => False⟩ rfl rfl rfl rfl ds n hp (rootOf a H av (gam N ds).length) av (fun _ => 0) (L2.start N vs) H ?_ _ ?_
    · exact ss_start (c := ⟨⟨K, mg, a, l, ns, T, er⟩, E0, fun _ _ _ => False⟩) lv pa da pn fun _ _ _ _ _ _ _ _ _ _ _ _ _ _ z => z
    · refine ⟨fun av' o Γ n' σ H' S' q => ?_, fun av' v H' d n' sub st p h1 q => ?_, fun _ _ _ _ _ _ _ z => z, fun _ _ _ _ _ _ _ z => z⟩
      · exact hq .non H' .non n' (kp_pen S'.kp) S'.pen .non q
      · exact hq v H' d n' (kp_pen st) p (h1.less sub) q
/-- a def that may raise -/
theorem okEX {b : Bool} {N ps : List Str} {k : Nat} (Fd : FunD K x qual params body scope dvs kws f fd) (sc : FnScope N ps scope) (len : ∀ ds n, NS (F ds) n → ds.length = ps.length)
    (hbody : ∀ (cdv : Value) (A : Around) (outer : List Env) (s : Shared) (H : Hp) (E : XK), RoomG b k (A.deeper (envOfC qual scope s.heap.objs.size f cdv)) →
      ∃ t, PSs (cxOf (L2.CX P w) P w K mg base N qual scope f cdv A outer s H E) body t ∧ ∀ (c : Fc) (ds : List Dt) (n : Nat), c.K = K → c.mg = mg → c.T = T → c.E = E → EOk c (F ds) n → Ws c (gam N ds) n t (ndE (F ds) n)) :
    FnG b P w K mg base (L2.CX P w) (k + 1) f fd ps (spE K mg T F) := by
  refine okG Fd sc (fun vs H Q E h => ?_) fun cdv A outer s H vs Q E hr h => ?_
  · obtain ⟨a, l, ns, er, av, n, ds, _, _, da, _, hp, _⟩ := h
    rw [da.length]
    exact len ds n hp
  · obtain ⟨a, l, ns, er, av, n, ds, lv, pa, da, pn, hp, hq, hx⟩ := h
    obtain ⟨t, ht, hw⟩ := hbody cdv A outer s H E hr
    refine ⟨t, ht, ?_⟩
    refine hw ⟨⟨K, mg, a, l, ns, T, er⟩, E, fun cn es m => Hit (F ds) n (.ex cn es) m⟩ ds n rfl rfl rfl rfl ⟨hp, fun _ _ _ z => z⟩ (rootOf a H av (gam N ds).length) av (fun _ => 0) (L2.start N vs) H ?_ _ ?_
    · refine ss_start (c := ⟨⟨K, mg, a, l, ns, T, er⟩, E, fun cn es m => Hit (F ds) n (.ex cn es) m⟩) lv pa da pn ?_
      intro cn C x H' fs es m h1 h2 h3 h4 h5 h6 h7 h8
      exact hx cn C x H' fs es m (kp_pen h2) h3 h1 h4 h5 h6 h7 h8
    · refine ⟨fun av' o Γ n' σ H' S' q => ?_, fun av' v H' d n' sub st p h1 q => ?_, fun _ _ _ _ _ _ _ z => z, fun _ _ _ _ _ _ _ z => z⟩
      · exact hq .non H' .non n' (kp_pen S'.kp) S'.pen .non q
      · exact hq v H' d n' (kp_pen st) p (h1.less sub) q
/-- a def that makes lambdas, handed no errors -/
theorem okE0m {b : Bool} {N ps : List Str} {k : Nat} (Fd : FunD K x qual params body scope dvs kws f fd) (sc : FnScope N ps scope) (len : ∀ ds n, NS (F ds) n → ds.length = ps.length) (hne : ∀ ds n, NS (F ds) n → Dt.nes ds = true)
    (hbody : ∀ (A : Around) (outer : List Env) (s : Shared) (H : Hp) (E : XK), RoomG b k (A.deeper (envOfC qual scope s.heap.objs.size f fd.code)) →
      ∃ t, PSs (cxOf CX0 P w K mg base N qual scope f fd.code A outer s H E).nox body t ∧ ∀ (c : Fc), c.K = K → c.mg = mg → c.T = T → c.E = E0 → c.er = none → ∀ (ds : List Dt) (n : Nat), NS (F ds) n → Ws c (gam N ds) n t (ndE (F ds) n)) :
    FnG b P w K mg base CX0 (k + 1) f fd ps (spE K mg T F) := by
  obtain ⟨oc, od, dV, kV, doc, pm, an, cdv, ct, osl, rfl, lk, hcd, _, _⟩ := Fd.ex
  refine fnG_of lk hcd sc (fun vs H Q E h => ?_) fun A outer s H vs Q E hr h => ?_
  · obtain ⟨a, l, ns, er, av, n, ds, _, _, da, _, hp, _⟩ := h
    rw [da.length]
    exact len ds n hp
  · obtain ⟨a, l, ns, er, av, n, ds, lv, pa, da, pn, hp, hq, _⟩ := h
    have da' : DaAll ⟨K, mg, a, l, ns, T, none⟩ av H vs ds := DaAll.swap (c1 := ⟨K, mg, a, l, ns, T, er⟩) (c2 := ⟨K, mg, a, l, ns, T, none⟩) ⟨rfl, rfl, rfl⟩ ds vs (.inl (hne ds n hp)) da
    obtain ⟨t, ht, hw⟩ := hbody A outer s H E hr
    refine ⟨t, ht.nox, ?_⟩
    have back : ∀ v H' d m, Stp a H H' → Pen a l ns T m H' → Da ⟨K, mg, a, l, ns, T, none⟩ av H' v d → Hit (F ds) n (.ok d) m → Q v H' := fun v H' d m st p h1 h2 =>
      hq v H' d m st p (Da.swap (c1 := ⟨K, mg, a, l, ns, T, none⟩) (c2 := ⟨K, mg, a, l, ns, T, er⟩) ⟨rfl, rfl, rfl⟩ d v (.inr rfl) h1) h2
    refine hw ⟨⟨K, mg, a, l, ns, T, none⟩, E0, fun _ _ _ => False⟩ rfl rfl rfl rfl rfl ds n hp (rootOf a H av (gam N ds).length) av (fun _ => 0) (L2.start N vs) H ?_ _ ?_
    · exact ss_start (c := ⟨⟨K, mg, a, l, ns, T, none⟩, E0, fun _ _ _ => False⟩) lv pa da' pn fun _ _ _ _ _ _ _ _ _ _ _ _ _ _ z => z
    · refine ⟨fun av' o Γ n' σ H' S' q => ?_, fun av' v H' d n' sub st p h1 q => ?_, fun _ _ _ _ _ _ _ z => z, fun _ _ _ _ _ _ _ z => z⟩
      · exact back .non H' .non n' (kp_pen S'.kp) S'.pen .non q
      · exact back v H' d n' (kp_pen st) p (h1.less sub) q
/-- the promise of a draw is that of an evaluation -/
theorem fnG_draw {b : Bool} {CX : CXT} {k : Nat} (G : FnG b P w K mg base CX k f fd ["_law_pen_here", "_law_many"] (spD K mg T S_draw)) (h : ∀ ds n, NS (F ds) n → ∃ m : Int, ds = [.pen, .int m] ∧ 0 < m ∧ m < 1073741824 ∧ F ds = Ev.draw m ∧ 0 < n) :
    FnG b P w K mg base CX k f fd ["_law_pen_here", "_law_many"] (spE K mg T F) := by
  have key : ∀ vs H Q E, spE K mg T F vs H Q E → spD K mg T S_draw vs H Q E := by
    rintro vs H Q E ⟨a, l, ns, er, av, n, ds, lv, pa, da, pn, hp, hq, hx⟩
    obtain ⟨m, rfl, h1, h2, hF, hn⟩ := h ds n hp
    obtain ⟨n', rfl⟩ : ∃ n', n = n' + 1 := ⟨n - 1, by omega⟩
    refine ⟨a, l, ns, er, av, n', _, lv, pa, da, pn, draw_pre h1 h2, fun v H' d st p hd hpost => ?_, fun _ _ _ _ _ _ _ _ _ _ _ _ _ z => z.elim⟩
    obtain ⟨i, rfl, h0, hi⟩ := draw_post hpost
    refine hq v H' _ n' st p hd ⟨[i.toNat], by simp; omega, fun l _ => ?_⟩
    rw [hF]
    show (if 0 < m ∧ m < 1073741824 then _ else none) = _
    rw [if_pos ⟨h1, h2⟩]
    show some (Re.ok (Dt.int (((i.toNat : Nat) : Int) % m)), l) = _
    rw [Int.toNat_of_nonneg h0, Int.emod_eq_of_lt h0 hi]
  exact ⟨fun vs H Q E h => G.len vs H Q E (key vs H Q E h), fun A outer s H args us vs Q E hr e0 hb r h => G.run A outer s H args us vs Q E hr e0 hb r (key vs H Q E h)⟩
end
end Pb
namespace Pb
open PySem PySem.Spec PyProof.Rows L2

/-! ### operators, evaluated -/
inductive O2 where
  | add | sub | mul | mod | div | pow | lt | le | gt | ge | eq | ne | in_ | nin | is_ | isn | ix
def O2.r (K : PySem.W.Frag) : O2 → R2
  | .add => rAdd K
  | .sub => rSub
  | .mul => rMulX K
  | .mod => rMod
  | .div => rDiv
  | .pow => rPow
  | .lt => rLtX K
  | .le => rLe
  | .gt => rGt
  | .ge => rGe
  | .eq => rEqX K
  | .ne => rNeX K
  | .in_ => rInX K false
  | .nin => rInX K true
  | .is_ => rIs
  | .isn => rIsNot
  | .ix => rIx K
/-- x == y -/
def eqE (d e : Dt) : Option Bool := if scalD d e then some (sameD d e) else if d.pl 20 && e.pl 20 then some (d.eqv e) else match d, e with
  | .lst ds, .lst [] => some ds.isEmpty
  | _, _ => none
def inE (d e : Dt) : Option Bool := match e with
  | .str z => (match d with
    | .str ⟨⟨[s]⟩⟩ => some (decide (s ∈ z.cps.toList))
    | _ => none)
  | .tup ds => if flatD d && ds.all flatD then some (ds.any fun e => eqvD e d) else none
  | .lst ds => if flatD d && ds.all flatD then some (ds.any fun e => eqvD e d) else none
  | _ => none
def cmulB (i j : Int) : Bool := (decide (-(2 ^ 64) < i) && decide (i < 2 ^ 64)) || (decide (-(2 ^ 64) < j) && decide (j < 2 ^ 64))
theorem cmulB_ok {i j : Int} (h : cmulB i j = true) : CMul i j := by
  unfold cmulB at h
  simp only [Bool.or_eq_true, Bool.and_eq_true, decide_eq_true_eq] at h
  exact h
def O2.ev : O2 → Dt → Dt → Option Dt
  | .add, .int i, .int j => some (.int (i + j))
  | .add, .str x, .str y => if szOk (x.length + y.length) then some (.str (x ++ y)) else none
  | .add, .lst xs, .lst ys => if szOk (xs.length + ys.length) then some (.lst (xs ++ ys)) else none
  | .add, .tup xs, .tup ys => if szOk (xs.length + ys.length) then some (.tup (xs ++ ys)) else none
  | .sub, .int i, .int j => some (.int (i - j))
  | .mul, .int i, .int j => if cmulB i j then some (.int (i * j)) else none
  | .mul, .lst xs, .int m => if decide (-(2 ^ 63) ≤ m) && decide (m < 2 ^ 63) && szOk (xs.length * m.toNat) then some (.lst (List.replicate m.toNat xs).flatten) else none
  | .mul, .tup xs, .int m => if decide (1 ≤ m) && decide (m ≤ 1000) && (!xs.isEmpty && decide (xs.length ≤ 1000)) then some (.tup (List.replicate m.toNat xs).flatten) else none
  | .mod, .int i, .int j => if 0 < j then some (.int (i % j)) else none
  | .div, .int i, .int j => if 0 < j ∧ j < 1073741824 then some (.int (i / j)) else none
  | .pow, .int i, .int j => if 0 ≤ j ∧ j ≤ 1000000 ∧ i.natAbs < 2 ^ 64 then some (.int (i ^ j.toNat)) else none
  | .lt, .int i, .int j => some (.bl (decide (i < j)))
  | .lt, .str x, .str y => some (.bl (decide (x.cps.toList < y.cps.toList)))
  | .lt, .tup xs, .tup ys => (intsE xs).bind fun xs => (intsE ys).map fun ys => .bl (HT.lexLt xs ys)
  | .le, .int i, .int j => some (.bl (decide (i ≤ j)))
  | .gt, .int i, .int j => some (.bl (decide (j < i)))
  | .ge, .int i, .int j => some (.bl (decide (j ≤ i)))
  | .eq, d, e => (eqE d e).map Dt.bl
  | .ne, d, e => (eqE d e).map fun b => .bl (!b)
  | .in_, d, e => (inE d e).map Dt.bl
  | .nin, d, e => (inE d e).map fun b => .bl (!b)
  | .is_, d, .non => some (.bl (match d with | .non => true | _ => false))
  | .isn, d, .non => some (.bl (match d with | .non => false | _ => true))
  | .ix, .lst xs, .int i => atI xs i
  | .ix, .tup xs, .int i => atI xs i
  | .ix, .str z, .int i => if szOk z.length then (atI z.cps.toList i).map fun s => .str ⟨#[s]⟩ else none
  | _, _, _ => none
theorem eqE_ok {c : Fc} {n : Nat} {k : Dt → Prop} {d e : Dt} {b : Bool} (h : eqE d e = some b) : (k (.bl b) → R2D c n (rEqX c.K) d e k) ∧ (k (.bl (!b)) → R2D c n (rNeX c.K) d e k) := by
  unfold eqE at h
  split at h
  · rename_i hs
    cases h
    exact ⟨r_eqC hs, r_neC hs⟩
  · split at h
    · rename_i hp
      rw [Bool.and_eq_true] at hp
      cases h
      exact ⟨r_eqP hp.1 hp.2, r_neP hp.1 hp.2⟩
    · split at h
      · cases h
        exact ⟨r_eqNil, r_neNilD⟩
      · cases h
theorem inE_ok {c : Fc} {n : Nat} {k : Dt → Prop} {d e : Dt} {b : Bool} (h : inE d e = some b) : (k (.bl b) → R2D c n (rInX c.K false) d e k) ∧ (k (.bl (!b)) → R2D c n (rInX c.K true) d e k) := by
  unfold inE at h
  split at h
  · split at h
    · cases h
      exact ⟨fun q => r_inS q, fun q => r_inS q⟩
    · cases h
  · split at h
    · rename_i hp
      rw [Bool.and_eq_true] at hp
      cases h
      exact ⟨fun q => r_inT hp.1 hp.2 q, fun q => r_inT hp.1 hp.2 q⟩
    · cases h
  · split at h
    · rename_i hp
      rw [Bool.and_eq_true] at hp
      cases h
      exact ⟨fun q => r_inL hp.1 hp.2 q, fun q => r_inL hp.1 hp.2 q⟩
    · cases h
  · cases h
theorem O2.sound {c : Fc} {n : Nat} {k : Dt → Prop} {o : O2} {d e x : Dt} (h : o.ev d e = some x) (q : k x) : R2D c n (o.r c.K) d e k := by
  unfold O2.ev at h
  split at h
  · cases h; exact r_addI q
  · split at h
    · cases h; exact r_addS (by assumption) q
    · cases h
  · split at h
    · cases h; exact r_addL (by assumption) q
    · cases h
  · split at h
    · cases h; exact r_addT (by assumption) q
    · cases h
  · cases h; exact r_subI q
  · split at h
    · cases h; exact r_mulXI (cmulB_ok (by assumption)) q
    · cases h
  · split at h
    · rename_i hp
      simp only [Bool.and_eq_true, decide_eq_true_eq] at hp
      cases h; exact r_mulXL hp.1.1 hp.1.2 hp.2 q
    · cases h
  · split at h
    · rename_i xs m hp
      simp only [Bool.and_eq_true, decide_eq_true_eq] at hp
      cases h; exact r_mulT hp.1.1 hp.1.2 ⟨fun z => by rw [z] at hp; simp at hp, hp.2.2⟩ q
    · cases h
  · split at h
    · cases h; exact r_modI (by assumption) q
    · cases h
  · split at h
    · cases h; exact r_divI (by assumption) q
    · cases h
  · split at h
    · cases h; exact r_powI (by assumption) q
    · cases h
  · cases h; exact r_ltXI q
  · cases h; exact r_ltXS q
  · obtain ⟨xs, h1, h2⟩ := Option.bind_eq_some_iff.mp h
    obtain ⟨ys, h3, rfl⟩ := Option.map_eq_some_iff.mp h2
    rw [intsE_ok h1, intsE_ok h3]
    exact r_ltT q
  · cases h; exact r_leI q
  · cases h; exact r_gtI q
  · cases h; exact r_geI q
  · obtain ⟨b, hb, rfl⟩ := Option.map_eq_some_iff.mp h
    exact (eqE_ok hb).1 q
  · obtain ⟨b, hb, rfl⟩ := Option.map_eq_some_iff.mp h
    exact (eqE_ok hb).2 q
  · obtain ⟨b, hb, rfl⟩ := Option.map_eq_some_iff.mp h
    exact (inE_ok hb).1 q
  · obtain ⟨b, hb, rfl⟩ := Option.map_eq_some_iff.mp h
    exact (inE_ok hb).2 q
  · cases h; exact r_isN rfl q
  · cases h; exact r_notN rfl q
  · exact r_ixL h q
  · exact r_ixT h q
  · split at h
    · obtain ⟨s, hs, rfl⟩ := Option.map_eq_some_iff.mp h
      exact r_ixS (by assumption) hs q
    · cases h
  · cases h
/-! ### built-ins, evaluated -/
inductive Bl where
  | len | abs | int | list | tuple | str | all | any | repr
def Bl.r (K : PySem.W.Frag) : Bl → List V → Hp → VK → Prop
  | .len => rLen K
  | .abs => rAbs
  | .int => rInt
  | .list => rList K
  | .tuple => rTuple K
  | .str => rStr
  | .all => rAll K
  | .any => rAny K
  | .repr => rRepr K
def blsE : List Dt → Option (List Bool)
  | [] => some []
  | .bl b :: ds => (blsE ds).map (b :: ·)
  | _ => none
theorem blsE_ok : ∀ {ds : List Dt} {bs : List Bool}, blsE ds = some bs → ds = bs.map Dt.bl
  | [], _, h => by cases h; rfl
  | .bl b :: ds, bs, h => by
    obtain ⟨cs, h1, rfl⟩ := Option.map_eq_some_iff.mp (show (blsE ds).map (b :: ·) = some bs from h)
    rw [blsE_ok h1]
    rfl
theorem blsE_map (bs : List Bool) : blsE (bs.map Dt.bl) = some bs := by
  induction bs with
  | nil => rfl
  | cons b bs ih =>
    show (blsE (bs.map Dt.bl)).map (b :: ·) = _
    rw [ih]
    rfl
def Bl.ev : Bl → List Dt → Option Dt
  | .len, [.lst ds] => some (.int ds.length)
  | .len, [.tup ds] => some (.int ds.length)
  | .len, [.str z] => if szOk z.length then some (.int z.length) else none
  | .len, [.dic ks _] => some (.int ks.length)
  | .abs, [.int i] => some (.int (if i < 0 then -i else i))
  | .int, [.int i] => some (.int i)
  | .int, [.bl b] => some (.int (if b then 1 else 0))
  | .int, [.str z] => if z.length ≤ 640 then (PySem.intText? z).map Dt.int else none
  | .list, [.lst ds] => some (.lst ds)
  | .list, [.tup ds] => some (.lst ds)
  | .tuple, [.lst ds] => some (.tup ds)
  | .tuple, [.tup ds] => some (.tup ds)
  | .str, [.int i] => if i.natAbs.log2 < 1920 then some (.str (toString i)) else none
  | .str, [.str z] => some (.str z)
  | .all, [.lst ds] => (blsE ds).map fun bs => .bl (bs.all id)
  | .any, [.lst ds] => (blsE ds).map fun bs => .bl (bs.any id)
  | .repr, [d] => if d.ro 20 && decide (d.rw ≤ 16777216) then some (.str d.sh) else none
  | _, _ => none
theorem c_any {c : Fc} {n : Nat} {k : Kd} {bs : List Bool} (h : k (.bl (bs.any id)) n) : RCD c (rAny c.K) [.lst (bs.map Dt.bl)] n k := rc_pure fun av H vs lv pa da Q q => by
  cases da with
  | cons h1 h2 =>
    cases h2
    cases h1 with
    | lst a1 a2 a3 =>
      have e := a3.bls
      subst e
      exact ⟨_, bs, rfl, SqL.of a2, q _ H _ (Same.refl H) (.bl _) h⟩
theorem Bl.sound {c : Fc} {n : Nat} {k : Kd} (hs : ∃ o, c.K.lookup sysModules = some o) {o : Bl} {ds : List Dt} {x : Dt} (h : o.ev ds = some x) (q : k x n) : RCD c (o.r c.K) ds n k := by
  unfold Bl.ev at h
  split at h
  · cases h; exact c_lenL q
  · cases h; exact c_lenT q
  · split at h
    · cases h; exact c_lenS (by assumption) q
    · cases h
  · cases h; exact c_lenD q
  · cases h; exact c_abs q
  · cases h; exact c_intI q
  · cases h; exact c_intB q
  · split at h
    · obtain ⟨i, hi, rfl⟩ := Option.map_eq_some_iff.mp h
      exact c_intS hi (by assumption) q
    · cases h
  · cases h; exact c_listL q
  · cases h; exact c_listT q
  · cases h; exact c_tupleL q
  · cases h; exact c_tupleT q
  · split at h
    · cases h; exact c_strI (by assumption) q
    · cases h
  · cases h; exact c_strS q
  · obtain ⟨bs, hb, rfl⟩ := Option.map_eq_some_iff.mp h
    rw [blsE_ok hb]
    exact c_all q
  · obtain ⟨bs, hb, rfl⟩ := Option.map_eq_some_iff.mp h
    rw [blsE_ok hb]
    exact c_any q
  · split at h
    · rename_i hp
      rw [Bool.and_eq_true, decide_eq_true_eq] at hp
      cases h
      exact c_reprD hs hp.1 (by decide) hp.2 q
    · cases h
  · cases h
end Pb
namespace Pb
open PySem PySem.Spec PyProof.Rows L2

/-! ### terms -/
/-- targets: a name, or a tuple of names -/
inductive Tg where
  | name (i : Nat)
  | tup (is : List Nat)
def gsOf : List Nat → TGs
  | [] => gNil
  | i :: is => gCons (gName i) (gsOf is)
def Tg.g (K : PySem.W.Frag) : Tg → TG
  | .name i => gName i
  | .tup is => gTup K is.length (gsOf is)
def Tg.js : Tg → List Nat
  | .name i => [i]
  | .tup is => is
mutual
inductive Te : Type where
  | var (i : Nat)
  | non
  | bl (b : Bool)
  | int (i : Int)
  | str (x : Str)
  | op (o : O2) (a b : Te)
  | neg (a : Te)
  | not_ (a : Te)
  | and_ (a b : Te)
  | or_ (a b : Te)
  | ifx (t : Tt) (a b : Te)
  | lst (as : Ta)
  | tup (as : Ta)
  | dnew
  | disp (ps : Tp)
  | sl (a : Te) (lo hi : To)
  | rev (a : Te)
  | chain (o p : O2) (a b c : Te)
  | call (e : Bool) (f : Nat) (as : Ta)
  | callK (e : Bool) (f : Nat) (na nk : Nat) (as ks : Ta)
  | callP (e : Bool) (f : Nat) (na nk : Nat) (ix : List Nat) (as ks : Ta)
  | blt (b : Bl) (as : Ta)
  | isi (T : Tn) (a : Te)
  | isiTL (a : Te)
  | join (a b : Te)
  | split (a b : Te)
  | index (a b : Te)
  | lc (it : Ti) (g : Tg) (tt : Tt) (el : Te)
  | hear (ex : Str) (i j len : Nat) (rest : Ts) (body : Te)
  | isH (C : Str) (a : Te)
  | hvf (f : Str) (a : Te)
inductive Ta : Type where
  | nil
  | cons (a : Te) (as : Ta)
inductive Tp : Type where
  | nil
  | cons (k v : Te) (ps : Tp)
inductive Tt : Type where
  | test (a : Te)
  | tr (a : Te)
  | and_ (a b : Tt)
  | or_ (a b : Tt)
  | not_ (a : Tt)
  | yes
inductive To : Type where
  | none
  | some (a : Te)
inductive Ti : Type where
  | sq (a : Te)
  | rng1 (as : Ta)
  | rng2 (as : Ta)
inductive Ts : Type where
  | seq (a b : Ts)
  | asg (i : Nat) (a : Te)
  | asgG (is : List Nat) (a : Te)
  | ownL (i : Nat) (as : Ta)
  | ownC (i : Nat) (it : Ti) (g : Tg) (tt : Tt) (el : Te)
  | app (i : Nat) (a : Te)
  | rel (i : Nat) (s : Ts)
  | ret (a : Te)
  | retO (i : Nat)
  | retN
  | ifS (t : Tt) (a b : Ts)
  | for_ (it : Ti) (g : Tg) (b : Ts)
  | next
  | brk
  | cont
  | drop (a : Te)
  | rais (cn f : Str) (a : Te)
  | par (i j : Nat) (a b : Te)
  | parO (i j : Nat) (b : Te)
end
/-- may errors pass? -/
def selE (e : Bool) (E : XK) : XK := match e with | true => E | false => E0
def selF {α : Type} (e : Bool) (f : Ev α) : Ev α := match e with | true => f | false => f.calm
@[simp] theorem selF_t {α : Type} (f : Ev α) : selF true f = f := rfl
@[simp] theorem selF_f {α : Type} (f : Ev α) : selF false f = f.calm := rfl
/-! ### readings -/
structure Dn where
  K : PySem.W.Frag
  T : List (Addr × Str)
  E : XK
  sp : Nat → Sp
  a : Addr := 0
  cls : Value := .none
  d : Option Addr := none
mutual
def den : Te → Dn → TE
  | .var i, _ => tVar i
  | .non, _ => tC .non
  | .bl b, _ => tC (.bl b)
  | .int i, _ => tC (.int i)
  | .str x, _ => tC (.str x)
  | .op o a b, p => tOp (o.r p.K) (den a p) (den b p)
  | .neg a, p => tUn (rU fun i => .int (-i)) (den a p)
  | .not_ a, p => tNotT p.K (den a p)
  | .and_ a b, p => tAndT p.K (den a p) (den b p)
  | .or_ a b, p => tOrT p.K (den a p) (den b p)
  | .ifx t a b, p => tIf (denT t p) (den a p) (den b p)
  | .lst as, p => tLst (denA as p)
  | .tup as, p => tTup (denA as p)
  | .dnew, _ => tDNewK
  | .disp ps, p => tDisp (denP ps p)
  | .sl a lo hi, p => tSl (rSl p.K) (den a p) (denO lo p) (denO hi p)
  | .rev a, p => tRev p.K (den a p)
  | .chain o q a b c, p => tChain (o.r p.K) (q.r p.K) (den a p) (den b p) (den c p)
  | .call e f as, p => tCB (fun vs H Q => p.sp f vs H Q (selE e p.E)) (denA as p)
  | .callK e f na nk as ks, p => tCK gApp na nk (fun vs H Q => p.sp f vs H Q (selE e p.E)) (denA as p) (denA ks p)
  | .callP e f na nk ix as ks, p => tCK (gPm ix) na nk (fun vs H Q => p.sp f vs H Q (selE e p.E)) (denA as p) (denA ks p)
  | .blt b as, p => tCB (b.r p.K) (denA as p)
  | .isi T a, p => tCB (rIsi p.K) (tCons (den a p) (tCons (tC (.ty T.s)) tNil))
  | .isiTL a, p => tCB (rIsiT p.K) (tCons (den a p) (tCons (tTup (tCons (tC (.ty "tuple")) (tCons (tC (.ty "list")) tNil))) tNil))
  | .join a b, p => tM1 (rJoin p.K) (den a p) (den b p)
  | .split a b, p => tM1 rSplit (den a p) (den b p)
  | .index a b, p => tBM p.K "list" (rIndex p.K) (den a p) (tCons (den b p) tNil)
  | .lc it g tt el, p => tLc (denI it p) (g.g p.K) (denT tt p) (den el p) g.js
  | .hear ex i j len rest body, p => LamX.tLam p.T (TTh p.K (He.ga p.K ex) i j len (fun a cls d => denS rest { p with E := E0, a := a, cls := cls, d := d }) wrL) (fun E => den body { p with E := E })
  | .isH C a, p => tCB (rIsHV p.K p.a p.cls p.d) (tCons (den a p) (tCons (tC (.ref (He.ga p.K C))) tNil))
  | .hvf f a, p => tHVf p.K p.a p.cls p.d f (den a p)
def denA : Ta → Dn → TA
  | .nil, _ => tNil
  | .cons a as, p => tCons (den a p) (denA as p)
def denP : Tp → Dn → List (TE × TE)
  | .nil, _ => []
  | .cons k v ps, p => (den k p, den v p) :: denP ps p
def denT : Tt → Dn → TT
  | .test a, p => tTest (den a p)
  | .tr a, p => tTr p.K (den a p)
  | .and_ a b, p => tAnd (denT a p) (denT b p)
  | .or_ a b, p => tOr (denT a p) (denT b p)
  | .not_ a, p => tNot (denT a p)
  | .yes, _ => tYes
def denO : To → Dn → TO
  | .none, _ => tNoPart
  | .some a, p => tPart (den a p)
def denI : Ti → Dn → TI
  | .sq a, p => iSq p.K (den a p)
  | .rng1 as, p => iRng1 (denA as p)
  | .rng2 as, p => iRng2 (denA as p)
def denS : Ts → Dn → TS
  | .seq a b, p => tSeq (denS a p) (denS b p)
  | .asg i a, p => tAsg (den a p) (gName i)
  | .asgG is a, p => tAsg (den a p) (gTup p.K is.length (gsOf is))
  | .ownL i as, p => tAsg (tLst (denA as p)) (gName i)
  | .ownC i it g tt el, p => tAsg (tLc (denI it p) (g.g p.K) (denT tt p) (den el p) g.js) (gName i)
  | .app i a, p => tDrop (tBM p.K "list" rAppend (tVar i) (tCons (den a p) tNil))
  | .rel _ s, p => denS s p
  | .ret a, p => tRet (den a p)
  | .retO i, _ => tRet (tVar i)
  | .retN, _ => tRetN
  | .ifS t a b, p => tIfS (denT t p) (denS a p) (denS b p)
  | .for_ it g b, p => tFor (denI it p) (g.g p.K) (denS b p)
  | .next, _ => tNext
  | .brk, _ => tBreak
  | .cont, _ => tCont
  | .drop a, p => tDrop (den a p)
  | .rais cn f a, p => tRaiseS (He.ga p.K cn) f (fun cls d _ H => p.E cls d H) (tCons (den a p) tNil)
  | .par i j a b, p => tPar i j (tCons (den a p) (tCons (den b p) tNil))
  | .parO i j b, p => tPar i j (tCons (tLst tNil) (tCons (den b p) tNil))
end
/-! ### evaluation -/
inductive Fl where
  | nx (Γ : List Sl)
  | rt (d : Dt)
  | bk (Γ : List Sl)
  | ct (Γ : List Sl)
structure Qc where
  f : Nat → List Dt → Ev Dt
  hd : Bool
  lam : Bool
  isa : Str → Str → Option Bool
  fld : Str → Str → Bool
  exm : Str → Str → Bool
  rai : Str → Bool
def setAll : List Nat → List Dt → List Sl → List Sl
  | i :: is, d :: ds, Γ => setAll is ds (Γ.set i (.da d))
  | _, _, Γ => Γ
def evG : Tg → Dt → List Sl → Option (List Sl)
  | .name i, d, Γ => some (Γ.set i (.da d))
  | .tup is, .tup ds, Γ => if ds.length = is.length then some (setAll is ds Γ) else none
  | _, _, _ => none
def varE (Γ : List Sl) (i : Nat) : Option Dt := match Γ[i]? with
  | some (.da d) => some d
  | _ => none
def slE : Dt → Option Int → Option Int → Option Dt
  | .lst ds, lo, hi => some (.lst (cutG ds lo hi))
  | .tup ds, lo, hi => some (.tup (cutG ds lo hi))
  | .str z, lo, hi => if szOk z.length then some (.str (cutS z lo hi)) else none
  | _, _, _ => none
def strsE : List Dt → Option (List Str)
  | [] => some []
  | .str b :: ds => (strsE ds).map (b :: ·)
  | _ => none
def strE : Dt → Option Str
  | .str z => some z
  | _ => none
def lstE : Dt → Option (List Dt)
  | .lst ds => some ds
  | _ => none
def joinE (z : Str) : Dt → Option Dt
  | .lst ds => (strsE ds).bind fun ys => if (ys.map (·.length)).sum + ys.length * z.length ≤ 16777216 then some (.str (Txt.join z ys)) else none
  | _ => none
def splitE (z : Str) : Dt → Option Dt
  | .str b => if (b.length == 0) = false ∧ szOk (z.length + 2) = true then some (.lst ((Txt.split z b).map Dt.str)) else none
  | _ => none
def idxE (ds : List Dt) (e : Dt) : Option Dt := if flatD e && ds.all flatD then (ds.findIdx? fun z => eqvD z e).map fun j => .int (j : Nat) else none
def rOk (j : Int) : Bool := decide (-(2 ^ 62) ≤ j) && decide (j < 2 ^ 62)
theorem rOk_ok {j : Int} (h : rOk j = true) : -(2 ^ 62) ≤ j ∧ j < 2 ^ 62 := by
  unfold rOk at h
  rw [Bool.and_eq_true, decide_eq_true_eq, decide_eq_true_eq] at h
  exact h
theorem rOk_of {j : Int} (h0 : -16777216 ≤ j) (h : j ≤ 16777216) : rOk j = true := by
  unfold rOk
  rw [Bool.and_eq_true, decide_eq_true_eq, decide_eq_true_eq]
  omega
def isiE (T : Tn) (d : Dt) : Option Dt := match T with
  | .none => none
  | T => d.tn.map fun t => .bl (t.sub T)
def evLc (b : Dt → Ev (Option Dt)) : List Dt → List Dt → Ev (List Dt)
  | [], acc => .pure acc
  | d :: ds, acc => (b d).bind fun o => evLc b ds (acc ++ o.toList)
def evFor (b : Dt → List Sl → Ev Fl) : List Dt → List Sl → Ev Fl
  | [], Γ => .pure (.nx Γ)
  | d :: ds, Γ => (b d Γ).bind fun r => match r with
    | .nx Γ' => evFor b ds Γ'
    | .ct Γ' => evFor b ds Γ'
    | .bk Γ' => .pure (.bk Γ')
    | .rt e => .pure (.rt e)
/-- behind a loop -/
def forEnd (Γ : List Sl) : Fl → Ev Fl
  | .nx Γ' => .pure (.nx (back Γ Γ'))
  | .bk Γ' => .pure (.nx (back Γ Γ'))
  | .rt d => .pure (.rt d)
  | .ct _ => .stuck
/-- what a body hands back -/
def retE : Fl → Ev Dt
  | .nx _ => .pure .non
  | .rt d => .pure d
  | _ => .stuck
def retH : Fl → Ev Dt
  | .rt d => if d.ne then .pure d else .stuck
  | _ => .stuck
mutual
def evE : Te → Qc → List Sl → Ev Dt
  | .var i, _, Γ => .of (varE Γ i)
  | .non, _, _ => .pure .non
  | .bl b, _, _ => .pure (.bl b)
  | .int i, _, _ => .pure (.int i)
  | .str x, _, _ => .pure (.str x)
  | .op o a b, q, Γ => (evE a q Γ).bind fun d => (evE b q Γ).bind fun e => .of (o.ev d e)
  | .neg a, q, Γ => (evE a q Γ).bind fun d => match d with | .int i => .pure (.int (-i)) | _ => .stuck
  | .not_ a, q, Γ => (evE a q Γ).bind fun d => (Ev.of (truD d)).bind fun b => .pure (.bl (!b))
  | .and_ a b, q, Γ => (evE a q Γ).bind fun d => (Ev.of (truD d)).bind fun t => if t = true then evE b q Γ else .pure d
  | .or_ a b, q, Γ => (evE a q Γ).bind fun d => (Ev.of (truD d)).bind fun t => if t = true then .pure d else evE b q Γ
  | .ifx t a b, q, Γ => (evT t q Γ).bind fun t => if t = true then evE a q Γ else evE b q Γ
  | .lst as, q, Γ => (evA as q Γ).bind fun ds => if szOk ds.length = true then .pure (.lst ds) else .stuck
  | .tup as, q, Γ => (evA as q Γ).bind fun ds => if szOk ds.length = true then .pure (.tup ds) else .stuck
  | .dnew, _, _ => .pure (.dic [] [])
  | .disp ps, q, Γ => (evP ps q Γ).bind fun kd => if kd.1.Nodup ∧ kd.1.length ≤ 15 then .pure (.dic kd.1 kd.2) else .stuck
  | .sl a lo hi, q, Γ => (evE a q Γ).bind fun d => (evO lo q Γ).bind fun lo => (evO hi q Γ).bind fun hi => .of (slE d lo hi)
  | .rev a, q, Γ => (evE a q Γ).bind fun d => .of (revE d)
  | .chain o p a b c, q, Γ => (evE a q Γ).bind fun x => (evE b q Γ).bind fun y => (Ev.of (o.ev x y)).bind fun r => match r with
    | .bl t => if t = true then (evE c q Γ).bind fun z => .of (p.ev y z) else .pure (.bl false)
    | _ => .stuck
  | .call e f as, q, Γ => (evA as q Γ).bind fun ds => selF e (q.f f ds)
  | .callK e f na nk as ks, q, Γ => (evA as q Γ).bind fun ds => (evA ks q Γ).bind fun es => if ds.length = na ∧ es.length = nk then selF e (q.f f (ds ++ es)) else .stuck
  | .callP e f na nk ix as ks, q, Γ => (evA as q Γ).bind fun ds => (evA ks q Γ).bind fun es => if ds.length = na ∧ es.length = nk then selF e (q.f f (gPm ix ds es)) else .stuck
  | .blt b as, q, Γ => (evA as q Γ).bind fun ds => .of (b.ev ds)
  | .isi T a, q, Γ => (evE a q Γ).bind fun d => .of (isiE T d)
  | .isiTL a, q, Γ => (evE a q Γ).bind fun d => .of (d.tn.map fun t => .bl (t.sub .tuple || t.sub .list))
  | .join a b, q, Γ => (evE a q Γ).bind fun d => (Ev.of (strE d)).bind fun z => (evE b q Γ).bind fun e => .of (joinE z e)
  | .split a b, q, Γ => (evE a q Γ).bind fun d => (Ev.of (strE d)).bind fun z => (evE b q Γ).bind fun e => .of (splitE z e)
  | .index a b, q, Γ => (evE a q Γ).bind fun d => (Ev.of (lstE d)).bind fun z => (evE b q Γ).bind fun e => .of (idxE z e)
  | .lc it g tt el, q, Γ => (evI it q Γ).bind fun ds => if szOk ds.length = true then (evLc (fun d => (Ev.of (evG g d (wipeG Γ g.js))).bind fun Γ2 => (evT tt q Γ2).bind fun b => if b = true then (evE el q Γ2).bind fun e => .pure (some e) else .pure none) ds []).bind fun es => .pure (.lst es) else .stuck
  | .hear ex i j len rest body, q, Γ => if q.lam = true ∧ i ≠ j ∧ j < len then (evE body q (Γ.map hideS)).catch_ (fun v => .pure (.lst [v])) (fun cn es => if q.exm cn ex = true then ((evS rest { q with hd := true, lam := false } (gamE len j cn es)).bind retH).calm else .stuck) else .stuck
  | .isH C a, q, Γ => if q.hd = true then (evE a q Γ).bind fun d => match d with
    | .err cn _ _ => (Ev.of (q.isa cn C)).bind fun b => .pure (.bl b)
    | _ => .stuck else .stuck
  | .hvf f a, q, Γ => if q.hd = true then (evE a q Γ).bind fun d => match d with
    | .err cn ns ds => if q.fld cn f = true then .of ((ns.zip ds).lookup f) else .stuck
    | _ => .stuck else .stuck
def evA : Ta → Qc → List Sl → Ev (List Dt)
  | .nil, _, _ => .pure []
  | .cons a as, q, Γ => (evE a q Γ).bind fun d => (evA as q Γ).bind fun ds => .pure (d :: ds)
def evP : Tp → Qc → List Sl → Ev (List Key × List Dt)
  | .nil, _, _ => .pure ([], [])
  | .cons k v ps, q, Γ => (evE k q Γ).bind fun d => (Ev.of (keyD d)).bind fun key => (evE v q Γ).bind fun e => (evP ps q Γ).bind fun kd => .pure (key :: kd.1, e :: kd.2)
def evT : Tt → Qc → List Sl → Ev Bool
  | .test a, q, Γ => (evE a q Γ).bind fun d => match d with | .bl b => .pure b | _ => .stuck
  | .tr a, q, Γ => (evE a q Γ).bind fun d => .of (truD d)
  | .and_ a b, q, Γ => (evT a q Γ).bind fun t => if t = true then evT b q Γ else .pure false
  | .or_ a b, q, Γ => (evT a q Γ).bind fun t => if t = true then .pure true else evT b q Γ
  | .not_ a, q, Γ => (evT a q Γ).bind fun t => .pure (!t)
  | .yes, _, _ => .pure true
def evO : To → Qc → List Sl → Ev (Option Int)
  | .none, _, _ => .pure none
  | .some a, q, Γ => (evE a q Γ).bind fun d => match d with | .int i => .pure (some i) | _ => .stuck
def evI : Ti → Qc → List Sl → Ev (List Dt)
  | .sq a, q, Γ => (evE a q Γ).bind fun d => .of (seqD d)
  | .rng1 as, q, Γ => (evA as q Γ).bind fun ds => match ds with
    | [.int j] => if rOk j = true then .pure (upTo 0 j.toNat) else .stuck
    | _ => .stuck
  | .rng2 as, q, Γ => (evA as q Γ).bind fun ds => match ds with
    | [.int i, .int j] => if rOk i = true ∧ rOk j = true then .pure (upTo i (j - i).toNat) else .stuck
    | _ => .stuck
def evS : Ts → Qc → List Sl → Ev Fl
  | .seq a b, q, Γ => (evS a q Γ).bind fun r => match r with | .nx Γ' => evS b q Γ' | r => .pure r
  | .asg i a, q, Γ => (evE a q Γ).bind fun d => .pure (.nx (Γ.set i (.da d)))
  | .asgG is a, q, Γ => (evE a q Γ).bind fun d => (Ev.of (evG (.tup is) d Γ)).bind fun Γ' => .pure (.nx Γ')
  | .ownL i as, q, Γ => (evA as q Γ).bind fun ds => if szOk ds.length = true then .pure (.nx (Γ.set i (.ol false ds))) else .stuck
  | .ownC i it g tt el, q, Γ => (evI it q Γ).bind fun ds => if szOk ds.length = true then (evLc (fun d => (Ev.of (evG g d (wipeG Γ g.js))).bind fun Γ2 => (evT tt q Γ2).bind fun b => if b = true then (evE el q Γ2).bind fun e => .pure (some e) else .pure none) ds []).bind fun es => .pure (.nx (Γ.set i (.ol false es))) else .stuck
  | .app i a, q, Γ => (Ev.of (match Γ[i]? with | some (.ol b ds) => some (b, ds) | _ => none)).bind fun x => if szLt x.2.length = true then (evE a q Γ).bind fun d => .pure (.nx (Γ.set i (.ol x.1 (x.2 ++ [d])))) else .stuck
  | .rel i s, q, Γ => match Γ[i]? with
    | some (.ol false ds) => evS s q (Γ.set i (.da (.lst ds)))
    | _ => evS s q Γ
  | .ret a, q, Γ => (evE a q Γ).bind fun d => .pure (.rt d)
  | .retO i, q, Γ => (Ev.of (match Γ[i]? with | some (.ol _ ds) => some (.lst ds) | some (.da d) => some d | _ => none)).bind fun d => .pure (.rt d)
  | .retN, _, _ => .pure (.rt .non)
  | .ifS t a b, q, Γ => (evT t q Γ).bind fun t => if t = true then evS a q Γ else evS b q Γ
  | .for_ it g b, q, Γ => (evI it q Γ).bind fun ds => (evFor (fun d Γ' => (Ev.of (evG g d Γ')).bind fun Γ2 => evS b q Γ2) ds (Γ.map outS)).bind (forEnd Γ)
  | .next, _, Γ => .pure (.nx Γ)
  | .brk, _, Γ => .pure (.bk Γ)
  | .cont, _, Γ => .pure (.ct Γ)
  | .drop a, q, Γ => (evE a q Γ).bind fun _ => .pure (.nx Γ)
  | .rais cn f a, q, Γ => if q.rai cn = true then (evE a q Γ).bind fun d => .rais cn [(f, d)] else .stuck
  | .parO i j b, q, Γ => (evE b q Γ).bind fun e => .pure (.nx ((Γ.set i (.ol false [])).set j (.da e)))
  | .par i j a b, q, Γ => (evE a q Γ).bind fun d => (evE b q Γ).bind fun e => .pure (.nx ((Γ.set i (.da d)).set j (.da e)))
end
end Pb
namespace Pb
open PySem PySem.Spec PyProof.Rows L2

section
variable {c : Fc} {Γ : List Sl} {n : Nat}
theorem Wt.mono {tt : TT} {k k' : Bool → Nat → Prop} (h : Wt c Γ n tt k) (hk : ∀ d m, k d m → k' d m) : Wt c Γ n tt k' := fun ρ av o σ H S Q q => h ρ av o σ H S Q fun b H' n' S' x kk => q b H' n' S' x (hk _ _ kk)
theorem Wa.mono {ta : TA} {k k' : List Dt → Nat → Prop} (h : Wa c Γ n ta k) (hk : ∀ d m, k d m → k' d m) : Wa c Γ n ta k' := fun ρ av o σ H S Q q => h ρ av o σ H S Q fun vs H' ds n' S' x da kk => q vs H' ds n' S' x da (hk _ _ kk)
theorem Wo.mono {to : TO} {k k' : Option Int → Nat → Prop} (h : Wo c Γ n to k) (hk : ∀ d m, k d m → k' d m) : Wo c Γ n to k' := fun ρ av o σ H S Q q => h ρ av o σ H S Q fun b H' n' S' x kk => q b H' n' S' x (hk _ _ kk)
theorem Wi.mono {wi : TI} {k k' : List Dt → Nat → Prop} (h : Wi c Γ n wi k) (hk : ∀ d m, k d m → k' d m) : Wi c Γ n wi k' := fun ρ av o σ H S R q => h ρ av o σ H S R fun J H' ds n' S' x it kk => q J H' ds n' S' x it (hk _ _ kk)
theorem Wp.mono {trs : List (TE × TE)} {k k' : List Key → List Dt → Nat → Prop} (h : Wp c Γ n trs k) (hk : ∀ ks d m, k ks d m → k' ks d m) : Wp c Γ n trs k' := fun ρ av o σ H S Q q => h ρ av o σ H S Q fun kvs H' ks ds n' S' x e da kk => q kvs H' ks ds n' S' x e da (hk _ _ _ kk)
theorem Wg.mono {js : List Nat} {g : TG} {d : Dt} {k k' : List Sl → Nat → Prop} (h : Wg c Γ n js g d k) (hk : ∀ d m, k d m → k' d m) : Wg c Γ n js g d k' := fun ρ av o σ H v S da Q q => h ρ av o σ H v S da Q fun Γ' σ' S' b kk => q Γ' σ' S' b (hk _ _ kk)
end
/-! ### what is shown of each kind of term -/
def SE (c : Fc) (Γ : List Sl) (te : TE) (f : Ev Dt) : Prop := ∀ n, EOk c f n → We c Γ n te fun d m => Hit f n (.ok d) m
def ST (c : Fc) (Γ : List Sl) (te : TT) (f : Ev Bool) : Prop := ∀ n, EOk c f n → Wt c Γ n te fun d m => Hit f n (.ok d) m
def SA (c : Fc) (Γ : List Sl) (te : TA) (f : Ev (List Dt)) : Prop := ∀ n, EOk c f n → Wa c Γ n te fun d m => Hit f n (.ok d) m
def SO (c : Fc) (Γ : List Sl) (te : TO) (f : Ev (Option Int)) : Prop := ∀ n, EOk c f n → Wo c Γ n te fun d m => Hit f n (.ok d) m
def SI (c : Fc) (Γ : List Sl) (te : TI) (f : Ev (List Dt)) : Prop := ∀ n, EOk c f n → Wi c Γ n te fun d m => Hit f n (.ok d) m
def SP (c : Fc) (Γ : List Sl) (te : List (TE × TE)) (f : Ev (List Key × List Dt)) : Prop := ∀ n, EOk c f n → Wp c Γ n te fun ks ds m => Hit f n (.ok (ks, ds)) m
def ndS (f : Ev Fl) (n : Nat) : Nd where
  nx := fun Γ m => Hit f n (.ok (.nx Γ)) m
  rt := fun d m => Hit f n (.ok (.rt d)) m
  bk := fun Γ m => Hit f n (.ok (.bk Γ)) m
  ct := fun Γ m => Hit f n (.ok (.ct Γ)) m
def SW (c : Fc) (Γ : List Sl) (ts : TS) (f : Ev Fl) : Prop := ∀ n, EOk c f n → Ws c Γ n ts (ndS f n)
section
variable {α : Type} {c : Fc} {n m : Nat} {p : Prop} [Decidable p] {f g : Ev α}
theorem EOk.pos (h : EOk c (if p then f else Ev.stuck) n) : p ∧ EOk c f n := by
  by_cases hp : p
  · rw [if_pos hp] at h; exact ⟨hp, h⟩
  · rw [if_neg hp] at h; exact h.stuck.elim
theorem hit_if {r : Re α} (hp : p) (h : Hit f n r m) : Hit (if p then f else g) n r m := by rw [if_pos hp]; exact h
theorem hit_else {r : Re α} (hp : ¬ p) (h : Hit g n r m) : Hit (if p then f else g) n r m := by rw [if_neg hp]; exact h
end
section
variable {c : Fc} {Γ : List Sl} {ta tb tc : TE} {tl tk : TA} {tt tu : TT} {fa fb fc : Ev Dt} {fl fk : Ev (List Dt)} {ft fu : Ev Bool}
theorem se_pure {te : TE} {d : Dt} (h : ∀ n k, k d n → We c Γ n te k) : SE c Γ te (.pure d) := fun n ok => h n _ hit_pure
theorem se_var {i : Nat} : SE c Γ (tVar i) (.of (varE Γ i)) := fun n ok => by
  obtain ⟨d, e⟩ := ok.of
  refine w_var (d := d) ?_ (hit_of e)
  unfold varE at e
  split at e
  · cases e; assumption
  · cases e
theorem se_op {o : O2} (ha : SE c Γ ta fa) (hb : SE c Γ tb fb) : SE c Γ (tOp (o.r c.K) ta tb) (fa.bind fun d => fb.bind fun e => .of (o.ev d e)) := fun n ok =>
  w_op ((ha n ok.bindL).mono fun d n1 h1 => (hb n1 (ok.bindR h1).bindL).mono fun e n2 h2 => by
    obtain ⟨x, ex⟩ := ((ok.bindR h1).bindR h2).of
    exact O2.sound ex (h1.bind (h2.bind (hit_of ex))))
theorem se_neg (ha : SE c Γ ta fa) : SE c Γ (tUn (rU fun i => .int (-i)) ta) (fa.bind fun d => match d with | .int i => .pure (.int (-i)) | _ => .stuck) := fun n ok =>
  w_un ((ha n ok.bindL).mono fun d n1 h1 => by
    have h := ok.bindR h1
    split at h
    · exact r_neg (h1.bind hit_pure)
    · exact h.stuck.elim)
theorem se_not (ha : SE c Γ ta fa) : SE c Γ (tNotT c.K ta) (fa.bind fun d => (Ev.of (truD d)).bind fun b => .pure (.bl (!b))) := fun n ok =>
  w_notT ((ha n ok.bindL).mono fun d n1 h1 => by
    obtain ⟨b, e⟩ := (ok.bindR h1).bindL.of
    exact ⟨b, e, h1.bind ((hit_of e).bind hit_pure)⟩)
theorem se_and (ha : SE c Γ ta fa) (hb : SE c Γ tb fb) : SE c Γ (tAndT c.K ta tb) (fa.bind fun d => (Ev.of (truD d)).bind fun t => if t = true then fb else .pure d) := fun n ok =>
  w_andT ((ha n ok.bindL).mono fun d n1 h1 => by
    obtain ⟨b, e⟩ := (ok.bindR h1).bindL.of
    refine ⟨b, e, ite_b (fun hb' => ?_) fun hb' => ?_⟩
    · have h2 := (ok.bindR h1).bindR (hit_of e (n := n1))
      rw [if_pos hb'] at h2
      exact (hb n1 h2).mono fun d m q => h1.bind ((hit_of e).bind (hit_if hb' q))
    · exact h1.bind ((hit_of e).bind (hit_else (by rw [hb']; decide) hit_pure)))
theorem se_or (ha : SE c Γ ta fa) (hb : SE c Γ tb fb) : SE c Γ (tOrT c.K ta tb) (fa.bind fun d => (Ev.of (truD d)).bind fun t => if t = true then .pure d else fb) := fun n ok =>
  w_orT ((ha n ok.bindL).mono fun d n1 h1 => by
    obtain ⟨b, e⟩ := (ok.bindR h1).bindL.of
    refine ⟨b, e, ite_b (fun hb' => ?_) fun hb' => ?_⟩
    · exact h1.bind ((hit_of e).bind (hit_if hb' hit_pure))
    · have h2 := (ok.bindR h1).bindR (hit_of e (n := n1))
      rw [if_neg (by rw [hb']; decide)] at h2
      exact (hb n1 h2).mono fun d m q => h1.bind ((hit_of e).bind (hit_else (by rw [hb']; decide) q)))
theorem se_ifx (ht : ST c Γ tt ft) (ha : SE c Γ ta fa) (hb : SE c Γ tb fb) : SE c Γ (tIf tt ta tb) (ft.bind fun t => if t = true then fa else fb) := fun n ok =>
  w_if ((ht n ok.bindL).mono fun b n1 h1 => by
    have h2 := ok.bindR h1
    refine ite_b (fun hb' => ?_) fun hb' => ?_
    · rw [if_pos hb'] at h2
      exact (ha n1 h2).mono fun d m q => h1.bind (hit_if hb' q)
    · rw [if_neg (by rw [hb']; decide)] at h2
      exact (hb n1 h2).mono fun d m q => h1.bind (hit_else (by rw [hb']; decide) q))
theorem se_lst (ha : SA c Γ tl fl) : SE c Γ (tLst tl) (fl.bind fun ds => if szOk ds.length = true then .pure (.lst ds) else .stuck) := fun n ok =>
  w_lst ((ha n ok.bindL).mono fun ds n1 h1 => by
    obtain ⟨hz, _⟩ := (ok.bindR h1).pos
    exact ⟨hz, h1.bind (hit_if hz hit_pure)⟩)
theorem se_tup (ha : SA c Γ tl fl) : SE c Γ (tTup tl) (fl.bind fun ds => if szOk ds.length = true then .pure (.tup ds) else .stuck) := fun n ok =>
  w_tup ((ha n ok.bindL).mono fun ds n1 h1 => by
    obtain ⟨hz, _⟩ := (ok.bindR h1).pos
    exact ⟨hz, h1.bind (hit_if hz hit_pure)⟩)
theorem se_disp {trs : List (TE × TE)} {fp : Ev (List Key × List Dt)} (h : SP c Γ trs fp) : SE c Γ (tDisp trs) (fp.bind fun kd => if kd.1.Nodup ∧ kd.1.length ≤ 15 then .pure (.dic kd.1 kd.2) else .stuck) := fun n ok =>
  w_disp ((h n ok.bindL).mono fun ks ds m h1 => by
    obtain ⟨hz, _⟩ := (ok.bindR h1).pos
    exact ⟨hz.1, hz.2, h1.bind (hit_if hz hit_pure)⟩)
theorem slE_ok {k : Dt → Prop} {d x : Dt} {lo hi : Option Int} (h : slE d lo hi = some x) (q : k x) : RSD c (rSl c.K) d lo hi k := by
  unfold slE at h
  split at h
  · cases h; exact s_lst q
  · cases h; exact s_tup q
  · split at h
    · cases h; exact s_str (by assumption) q
    · cases h
  · cases h
theorem se_sl {to th : TO} {fo fh : Ev (Option Int)} (ha : SE c Γ ta fa) (hl : SO c Γ to fo) (hh : SO c Γ th fh) : SE c Γ (tSl (rSl c.K) ta to th) (fa.bind fun d => fo.bind fun lo => fh.bind fun hi => .of (slE d lo hi)) := fun n ok =>
  w_sl ((ha n ok.bindL).mono fun d n1 h1 => (hl n1 (ok.bindR h1).bindL).mono fun lo n2 h2 => (hh n2 ((ok.bindR h1).bindR h2).bindL).mono fun hi n3 h3 => by
    obtain ⟨x, ex⟩ := (((ok.bindR h1).bindR h2).bindR h3).of
    exact slE_ok ex (h1.bind (h2.bind (h3.bind (hit_of ex)))))
theorem se_rev (ha : SE c Γ ta fa) : SE c Γ (tRev c.K ta) (fa.bind fun d => .of (revE d)) := fun n ok =>
  w_rev ((ha n ok.bindL).mono fun d n1 h1 => by
    obtain ⟨x, ex⟩ := (ok.bindR h1).of
    exact ⟨x, ex, h1.bind (hit_of ex)⟩)
theorem se_chain {o p : O2} (ha : SE c Γ ta fa) (hb : SE c Γ tb fb) (hc : SE c Γ tc fc) : SE c Γ (tChain (o.r c.K) (p.r c.K) ta tb tc) (fa.bind fun x => fb.bind fun y => (Ev.of (o.ev x y)).bind fun r => match r with
    | .bl t => if t = true then fc.bind fun z => .of (p.ev y z) else .pure (.bl false)
    | _ => .stuck) := fun n ok =>
  w_chain ((ha n ok.bindL).mono fun d n1 h1 => (hb n1 (ok.bindR h1).bindL).mono fun e n2 h2 => by
    have ok2 := (ok.bindR h1).bindR h2
    obtain ⟨x, ex⟩ := ok2.bindL.of
    have ok3 := ok2.bindR (hit_of ex (n := n2))
    refine O2.sound ex ?_
    split at ok3
    · rename_i t
      refine ⟨t, rfl, ite_b (fun hb' => ?_) fun hb' => ?_⟩
      · rw [if_pos hb'] at ok3
        refine (hc n2 ok3.bindL).mono fun z n3 h3 => ?_
        obtain ⟨y, ey⟩ := (ok3.bindR h3).of
        exact O2.sound ey (h1.bind (h2.bind ((hit_of ex).bind (hit_if hb' (h3.bind (hit_of ey))))))
      · exact h1.bind (h2.bind ((hit_of ex).bind (hit_else (by rw [hb']; decide) hit_pure)))
    · exact ok3.stuck.elim)
/-- a call, e: errors may pass -/
theorem rcd_call {F : List Dt → Ev Dt} {ds : List Dt} {e : Bool} {n : Nat} {k : Kd} (ok : EOk c (selF e (F ds)) n) (hk : ∀ d m, Hit (selF e (F ds)) n (.ok d) m → k d m) :
    RCD c (fun vs H Q => spE c.K c.mg c.T F vs H Q (selE e c.E)) ds n k := by
  cases e with
  | true => exact w_callE ok.1 hk ok.2
  | false =>
    obtain ⟨h1, h2⟩ := ok.1.calm
    exact w_callE0 h1 (fun d m q => hk d m q.calm) h2
theorem se_call {F : List Dt → Ev Dt} {e : Bool} (ha : SA c Γ tl fl) : SE c Γ (tCB (fun vs H Q => spE c.K c.mg c.T F vs H Q (selE e c.E)) tl) (fl.bind fun ds => selF e (F ds)) := fun n ok =>
  w_cb ((ha n ok.bindL).mono fun ds n1 h1 => rcd_call (ok.bindR h1) fun d m q => h1.bind q)
theorem se_callK {F : List Dt → Ev Dt} {e : Bool} {na nk : Nat} (ha : SA c Γ tl fl) (hk : SA c Γ tk fk) : SE c Γ (tCK gApp na nk (fun vs H Q => spE c.K c.mg c.T F vs H Q (selE e c.E)) tl tk)
    (fl.bind fun ds => fk.bind fun es => if ds.length = na ∧ es.length = nk then selF e (F (ds ++ es)) else .stuck) := fun n ok =>
  w_ckA ((ha n ok.bindL).mono fun ds n1 h1 => (hk n1 (ok.bindR h1).bindL).mono fun es n2 h2 => by
    obtain ⟨hz, ok2⟩ := ((ok.bindR h1).bindR h2).pos
    exact ⟨hz, rcd_call ok2 fun d m q => h1.bind (h2.bind (hit_if hz q))⟩)
theorem se_callP {F : List Dt → Ev Dt} {e : Bool} {na nk : Nat} {ix : List Nat} (ha : SA c Γ tl fl) (hk : SA c Γ tk fk) : SE c Γ (tCK (gPm ix) na nk (fun vs H Q => spE c.K c.mg c.T F vs H Q (selE e c.E)) tl tk)
    (fl.bind fun ds => fk.bind fun es => if ds.length = na ∧ es.length = nk then selF e (F (gPm ix ds es)) else .stuck) := fun n ok =>
  w_ck (g := gPm ix) (fun h1 h2 => h1.append (da_pick h2 ix)) ((ha n ok.bindL).mono fun ds n1 h1 => (hk n1 (ok.bindR h1).bindL).mono fun es n2 h2 => by
    obtain ⟨hz, ok2⟩ := ((ok.bindR h1).bindR h2).pos
    exact ⟨hz, rcd_call ok2 fun d m q => h1.bind (h2.bind (hit_if hz q))⟩)
theorem se_blt (hs : ∃ o, c.K.lookup sysModules = some o) {b : Bl} (ha : SA c Γ tl fl) : SE c Γ (tCB (b.r c.K) tl) (fl.bind fun ds => .of (b.ev ds)) := fun n ok =>
  w_cb ((ha n ok.bindL).mono fun ds n1 h1 => by
    obtain ⟨x, ex⟩ := (ok.bindR h1).of
    exact Bl.sound hs ex (h1.bind (hit_of ex)))
theorem se_isi {T : Tn} (ha : SE c Γ ta fa) : SE c Γ (tCB (rIsi c.K) (tCons ta (tCons (tC (.ty T.s)) tNil))) (fa.bind fun d => .of (isiE T d)) := fun n ok => by
  have key : ∀ d n1, Hit fa n (.ok d) n1 → T ≠ .none ∧ ∃ t, d.tn = some t ∧ Hit (fa.bind fun d => .of (isiE T d)) n (.ok (.bl (t.sub T))) n1 := fun d n1 h1 => by
    obtain ⟨x, ex⟩ := (ok.bindR h1).of
    unfold isiE at ex
    split at ex
    · cases ex
    · rename_i hT
      obtain ⟨t, ht, rfl⟩ := Option.map_eq_some_iff.mp ex
      refine ⟨hT, t, ht, h1.bind (hit_of ?_)⟩
      unfold isiE
      split
      · exact absurd rfl hT
      · exact ex
  by_cases hT : T = .none
  · subst hT
    intro ρ av o σ H S Q hQ
    exact ha n ok.bindL ρ av o σ H S _ fun x H1 d1 n1 S1 x1 h1 k1 => absurd rfl (key d1 n1 k1).1
  · exact w_isi T hT ((ha n ok.bindL).mono fun d n1 h1 => (key d n1 h1).2)
theorem se_isiTL (ha : SE c Γ ta fa) : SE c Γ (tCB (rIsiT c.K) (tCons ta (tCons (tTup (tCons (tC (.ty "tuple")) (tCons (tC (.ty "list")) tNil))) tNil))) (fa.bind fun d => .of (d.tn.map fun t => .bl (t.sub .tuple || t.sub .list))) := fun n ok =>
  w_isiTL ((ha n ok.bindL).mono fun d n1 h1 => by
    obtain ⟨x, ex⟩ := (ok.bindR h1).of
    obtain ⟨t, ht, rfl⟩ := Option.map_eq_some_iff.mp ex
    exact ⟨t, ht, h1.bind (hit_of ex)⟩)
theorem strsE_ok : ∀ {ds : List Dt} {ys : List Str}, strsE ds = some ys → ds = ys.map Dt.str
  | [], _, h => by cases h; rfl
  | .str b :: ds, bs, h => by
    obtain ⟨cs, h1, rfl⟩ := Option.map_eq_some_iff.mp (show (strsE ds).map (b :: ·) = some bs from h)
    rw [strsE_ok h1]
    rfl
theorem strsE_map (bs : List Str) : strsE (bs.map Dt.str) = some bs := by
  induction bs with
  | nil => rfl
  | cons b bs ih =>
    show (strsE (bs.map Dt.str)).map (b :: ·) = _
    rw [ih]
    rfl
theorem strE_ok {d : Dt} {z : Str} (h : strE d = some z) : d = .str z := by
  cases d <;> cases h; rfl
theorem lstE_ok {d : Dt} {z : List Dt} (h : lstE d = some z) : d = .lst z := by
  cases d <;> cases h; rfl
theorem se_join (ha : SE c Γ ta fa) (hb : SE c Γ tb fb) : SE c Γ (tM1 (rJoin c.K) ta tb) (fa.bind fun d => (Ev.of (strE d)).bind fun z => fb.bind fun e => .of (joinE z e)) := fun n ok =>
  w_joinL ((ha n ok.bindL).mono fun d n1 h1 => by
    have ok1 := ok.bindR h1
    obtain ⟨z, ez⟩ := ok1.bindL.of
    refine ⟨z, strE_ok ez, (hb n1 (ok1.bindR (hit_of ez)).bindL).mono fun e n2 h2 => ?_⟩
    obtain ⟨x, ex⟩ := ((ok1.bindR (hit_of ez)).bindR h2).of
    have e0 := ex
    unfold joinE at e0
    split at e0
    · obtain ⟨ys, ey, e1⟩ := Option.bind_eq_some_iff.mp e0
      split at e1
      · rename_i hz
        cases e1
        exact ⟨ys, by rw [strsE_ok ey], hz, h1.bind ((hit_of ez).bind (h2.bind (hit_of ex)))⟩
      · cases e1
    · cases e0)
theorem se_split (ha : SE c Γ ta fa) (hb : SE c Γ tb fb) : SE c Γ (tM1 rSplit ta tb) (fa.bind fun d => (Ev.of (strE d)).bind fun z => fb.bind fun e => .of (splitE z e)) := fun n ok =>
  w_splitL ((ha n ok.bindL).mono fun d n1 h1 => by
    have ok1 := ok.bindR h1
    obtain ⟨z, ez⟩ := ok1.bindL.of
    refine ⟨z, strE_ok ez, (hb n1 (ok1.bindR (hit_of ez)).bindL).mono fun e n2 h2 => ?_⟩
    obtain ⟨x, ex⟩ := ((ok1.bindR (hit_of ez)).bindR h2).of
    have e0 := ex
    unfold splitE at e0
    split at e0
    · split at e0
      · rename_i hz
        cases e0
        exact ⟨_, rfl, hz.1, hz.2, h1.bind ((hit_of ez).bind (h2.bind (hit_of ex)))⟩
      · cases e0
    · cases e0)
theorem find_at {p : Dt → Bool} : ∀ {ds : List Dt} {j : Nat}, ds.findIdx? p = some j → ∃ z, ds[j]? = some z ∧ p z = true ∧ ∀ (m : Nat) (y : Dt), m < j → ds[m]? = some y → p y = false := fun {ds j} h => by
  obtain ⟨hj, hp, hn⟩ := List.findIdx?_eq_some_iff_getElem.mp h
  refine ⟨ds[j], by simp [hj], hp, fun m y hm hy => ?_⟩
  have := hn m hm
  obtain ⟨h1, h2⟩ := List.getElem?_eq_some_iff.mp hy
  rw [h2] at this
  simpa using this
theorem se_index (ha : SE c Γ ta fa) (hb : SE c Γ tb fb) : SE c Γ (tBM c.K "list" (rIndex c.K) ta (tCons tb tNil)) (fa.bind fun d => (Ev.of (lstE d)).bind fun z => fb.bind fun e => .of (idxE z e)) := fun n ok =>
  w_index ((ha n ok.bindL).mono fun d n1 h1 => by
    have ok1 := ok.bindR h1
    obtain ⟨z, ez⟩ := ok1.bindL.of
    refine ⟨z, lstE_ok ez, (hb n1 (ok1.bindR (hit_of ez)).bindL).mono fun e n2 h2 => ?_⟩
    obtain ⟨x, ex⟩ := ((ok1.bindR (hit_of ez)).bindR h2).of
    have e0 := ex
    unfold idxE at e0
    split at e0
    · rename_i hf
      rw [Bool.and_eq_true] at hf
      obtain ⟨j, hj, rfl⟩ := Option.map_eq_some_iff.mp e0
      obtain ⟨y, h3, h4, h5⟩ := find_at hj
      exact ⟨j, y, hf.1, hf.2, h3, h4, h5, h1.bind ((hit_of ez).bind (h2.bind (hit_of ex)))⟩
    · cases e0)
/-! tests, arguments, parts, pairs, what is walked -/
theorem sa_nil : SA c Γ tNil (.pure []) := fun n ok => wa_nil hit_pure
theorem sa_cons (ha : SE c Γ ta fa) (hl : SA c Γ tl fl) : SA c Γ (tCons ta tl) (fa.bind fun d => fl.bind fun ds => .pure (d :: ds)) := fun n ok =>
  wa_cons ((ha n ok.bindL).mono fun d n1 h1 => (hl n1 (ok.bindR h1).bindL).mono fun ds n2 h2 => h1.bind (h2.bind hit_pure))
theorem sp_nil : SP c Γ [] (.pure ([], [])) := fun n ok => wp_nil hit_pure
theorem sp_cons {trs : List (TE × TE)} {fp : Ev (List Key × List Dt)} (ha : SE c Γ ta fa) (hb : SE c Γ tb fb) (h : SP c Γ trs fp) : SP c Γ ((ta, tb) :: trs) (fa.bind fun d => (Ev.of (keyD d)).bind fun key => fb.bind fun e => fp.bind fun kd => .pure (key :: kd.1, e :: kd.2)) := fun n ok =>
  wp_cons ((ha n ok.bindL).mono fun d n1 h1 => by
    have ok1 := ok.bindR h1
    obtain ⟨z, ez⟩ := ok1.bindL.of
    have ok2 := ok1.bindR (hit_of ez (n := n1))
    exact ⟨z, ez, (hb n1 ok2.bindL).mono fun e n2 h2 => (h n2 (ok2.bindR h2).bindL).mono fun ks ds m h3 => h1.bind ((hit_of ez).bind (h2.bind (h3.bind hit_pure)))⟩)
theorem st_test (ha : SE c Γ ta fa) : ST c Γ (tTest ta) (fa.bind fun d => match d with | .bl b => .pure b | _ => .stuck) := fun n ok =>
  wt_test ((ha n ok.bindL).mono fun d n1 h1 => by
    have h := ok.bindR h1
    split at h
    · exact ⟨_, rfl, h1.bind hit_pure⟩
    · exact h.stuck.elim)
theorem st_tr (ha : SE c Γ ta fa) : ST c Γ (tTr c.K ta) (fa.bind fun d => .of (truD d)) := fun n ok =>
  wt_tr ((ha n ok.bindL).mono fun d n1 h1 => by
    obtain ⟨b, e⟩ := (ok.bindR h1).of
    exact ⟨b, e, h1.bind (hit_of e)⟩)
theorem st_and (ha : ST c Γ tt ft) (hb : ST c Γ tu fu) : ST c Γ (tAnd tt tu) (ft.bind fun t => if t = true then fu else .pure false) := fun n ok =>
  wt_and ((ha n ok.bindL).mono fun b n1 h1 => by
    have h2 := ok.bindR h1
    refine ite_b (fun hb' => ?_) fun hb' => ?_
    · rw [if_pos hb'] at h2
      exact (hb n1 h2).mono fun d m q => h1.bind (hit_if hb' q)
    · exact h1.bind (hit_else (by rw [hb']; decide) hit_pure))
theorem st_or (ha : ST c Γ tt ft) (hb : ST c Γ tu fu) : ST c Γ (tOr tt tu) (ft.bind fun t => if t = true then .pure true else fu) := fun n ok =>
  wt_or ((ha n ok.bindL).mono fun b n1 h1 => by
    have h2 := ok.bindR h1
    refine ite_b (fun hb' => ?_) fun hb' => ?_
    · exact h1.bind (hit_if hb' hit_pure)
    · rw [if_neg (by rw [hb']; decide)] at h2
      exact (hb n1 h2).mono fun d m q => h1.bind (hit_else (by rw [hb']; decide) q))
theorem st_not (ha : ST c Γ tt ft) : ST c Γ (tNot tt) (ft.bind fun t => .pure (!t)) := fun n ok =>
  wt_not ((ha n ok.bindL).mono fun b n1 h1 => h1.bind hit_pure)
theorem st_yes : ST c Γ tYes (.pure true) := fun n ok => wt_yes hit_pure
theorem so_none : SO c Γ tNoPart (.pure none) := fun n ok => wo_none hit_pure
theorem so_some (ha : SE c Γ ta fa) : SO c Γ (tPart ta) (fa.bind fun d => match d with | .int i => .pure (some i) | _ => .stuck) := fun n ok =>
  wo_some ((ha n ok.bindL).mono fun d n1 h1 => by
    have h := ok.bindR h1
    split at h
    · exact ⟨_, rfl, h1.bind hit_pure⟩
    · exact h.stuck.elim)
theorem si_sq (ha : SE c Γ ta fa) : SI c Γ (iSq c.K ta) (fa.bind fun d => .of (seqD d)) := fun n ok =>
  wi_sq ((ha n ok.bindL).mono fun d n1 h1 => by
    obtain ⟨b, e⟩ := (ok.bindR h1).of
    exact ⟨b, e, h1.bind (hit_of e)⟩)
theorem si_rng1 (ha : SA c Γ tl fl) : SI c Γ (iRng1 tl) (fl.bind fun ds => match ds with
    | [.int j] => if rOk j = true then .pure (upTo 0 j.toNat) else .stuck
    | _ => .stuck) := fun n ok =>
  wi_rng1 ((ha n ok.bindL).mono fun ds n1 h1 => by
    have h := ok.bindR h1
    split at h
    · obtain ⟨hz, _⟩ := h.pos
      exact ⟨_, rfl, rOk_ok hz, h1.bind (hit_if hz hit_pure)⟩
    · exact h.stuck.elim)
theorem si_rng2 (ha : SA c Γ tl fl) : SI c Γ (iRng2 tl) (fl.bind fun ds => match ds with
    | [.int i, .int j] => if rOk i = true ∧ rOk j = true then .pure (upTo i (j - i).toNat) else .stuck
    | _ => .stuck) := fun n ok =>
  wi_rng2 ((ha n ok.bindL).mono fun ds n1 h1 => by
    have h := ok.bindR h1
    split at h
    · obtain ⟨hz, _⟩ := h.pos
      exact ⟨_, _, rfl, ⟨(rOk_ok hz.1).1, (rOk_ok hz.1).2, rOk_ok hz.2⟩, h1.bind (hit_if hz hit_pure)⟩
    · exact h.stuck.elim)
/-! targets -/
theorem wgs_all : ∀ (is : List Nat) (ds : List Dt) (Γ : List Sl) (n : Nat) (k : List Sl → Nat → Prop), ds.length = is.length → k (setAll is ds Γ) n → Wgs c Γ n is (gsOf is) ds k
  | [], [], Γ, n, k, _, h => wgs_nil h
  | i :: is, d :: ds, Γ, n, k, hl, h => wgs_cons (js := [i]) (wg_name (wgs_all is ds _ n k (by simpa using hl) h))
theorem wg_ev {g : Tg} {d : Dt} {Γ' : List Sl} {n : Nat} {k : List Sl → Nat → Prop} (h : evG g d Γ = some Γ') (q : k Γ' n) : Wg c Γ n g.js (g.g c.K) d k := by
  unfold evG at h
  split at h
  · cases h
    exact wg_name q
  · split at h
    · rename_i hl
      cases h
      exact wg_tup hl (wgs_all _ _ _ _ _ hl q)
    · cases h
  · cases h
/-! comprehensions -/
abbrev lcB (g : Tg) (Γ : List Sl) (ft : List Sl → Ev Bool) (fe : List Sl → Ev Dt) : Dt → Ev (Option Dt) := fun d => (Ev.of (evG g d (wipeG Γ g.js))).bind fun Γ2 => (ft Γ2).bind fun b => if b = true then (fe Γ2).bind fun e => .pure (some e) else .pure none
theorem lc_ask {g : Tg} {ft : List Sl → Ev Bool} {fe : List Sl → Ev Dt} (ht : ∀ Γ, ST c Γ tt (ft Γ)) (he : ∀ Γ, SE c Γ ta (fe Γ)) {ds : List Dt} {n : Nat} (hz : szOk ds.length = true) (ok : EOk c (evLc (lcB g Γ ft fe) ds []) n) :
    LcAsk c Γ g.js g.js (g.g c.K) tt ta ds n fun es m => Hit (evLc (lcB g Γ ft fe) ds []) n (.ok es) m := by
  refine ⟨fun i es m => es.length ≤ i ∧ EOk c (evLc (lcB g Γ ft fe) (ds.drop i) es) m ∧ ∀ r m', Hit (evLc (lcB g Γ ft fe) (ds.drop i) es) m r m' → Hit (evLc (lcB g Γ ft fe) ds []) n r m', ⟨Nat.le_refl _, ok, fun _ _ z => z⟩, fun i es m d hd h => ?_, fun es m h => ?_⟩
  · obtain ⟨h1, h2, h3⟩ := h
    obtain ⟨hi, ed⟩ := List.getElem?_eq_some_iff.mp hd
    have ed2 : ds.drop i = d :: ds.drop (i + 1) := by rw [← ed]; exact List.drop_eq_getElem_cons hi
    rw [ed2] at h2 h3
    have ok2 : EOk c ((lcB g Γ ft fe d).bind fun o => evLc (lcB g Γ ft fe) (ds.drop (i + 1)) (es ++ o.toList)) m := h2
    obtain ⟨Γ2, eΓ⟩ := ok2.bindL.bindL.of
    have okb := ok2.bindL.bindR (hit_of eΓ (n := m))
    refine wg_ev eΓ (((ht Γ2) m okb.bindL).mono fun b m2 q => ?_)
    have okc := okb.bindR q
    refine ite_b (fun hb => ?_) fun hb => ?_
    · rw [if_pos hb] at okc
      refine ((he Γ2) m2 okc.bindL).mono fun e m3 q2 => ⟨?_, ?_, ?_, ?_⟩
      · have := Nat.le_of_ble_eq_true hz
        exact Nat.ble_eq_true_of_le (show es.length + 1 ≤ 16777216 by omega)
      · rw [List.length_append]; simp; omega
      · have hh : Hit (lcB g Γ ft fe d) m (.ok (some e)) m3 := (hit_of eΓ).bind (q.bind (hit_if hb (q2.bind hit_pure)))
        exact ok2.bindR hh
      · intro r m' q3
        have hh : Hit (lcB g Γ ft fe d) m (.ok (some e)) m3 := (hit_of eΓ).bind (q.bind (hit_if hb (q2.bind hit_pure)))
        exact h3 r m' (hh.bind (g := fun (o : Option Dt) => evLc (lcB g Γ ft fe) (ds.drop (i + 1)) (es ++ o.toList)) q3)
    · have hh : Hit (lcB g Γ ft fe d) m (.ok none) m2 := (hit_of eΓ).bind (q.bind (hit_else (by rw [hb]; decide) hit_pure))
      have ok3 := ok2.bindR hh
      refine ⟨by omega, ?_, ?_⟩
      · simpa using ok3
      · intro r m' q3
        exact h3 r m' (hh.bind (g := fun (o : Option Dt) => evLc (lcB g Γ ft fe) (ds.drop (i + 1)) (es ++ o.toList)) (by simpa using q3))
  · obtain ⟨h1, h2, h3⟩ := h
    rw [List.drop_length] at h3
    exact h3 _ _ hit_pure
theorem sn_lc {wi : TI} {fi : Ev (List Dt)} {g : Tg} {ft : List Sl → Ev Bool} {fe : List Sl → Ev Dt} {α : Type} (k : List Dt → α) (hi : SI c Γ wi fi) (ht : ∀ Γ, ST c Γ tt (ft Γ)) (he : ∀ Γ, SE c Γ ta (fe Γ)) {n : Nat}
    (ok : EOk c (fi.bind fun ds => if szOk ds.length = true then (evLc (lcB g Γ ft fe) ds []).bind fun es => .pure (k es) else .stuck) n) :
    Wn c Γ n (tLc wi (g.g c.K) tt ta g.js) fun es m => Hit (fi.bind fun ds => if szOk ds.length = true then (evLc (lcB g Γ ft fe) ds []).bind fun es => Ev.pure (k es) else .stuck) n (.ok (k es)) m :=
  wn_lc (fun j h => h) ((hi n ok.bindL).mono fun ds n1 h1 => by
    obtain ⟨hz, ok2⟩ := (ok.bindR h1).pos
    obtain ⟨I, i0, tn, dn⟩ := lc_ask ht he hz ok2.bindL
    exact ⟨I, i0, tn, fun es m q => h1.bind (hit_if hz ((dn es m q).bind hit_pure))⟩)
theorem se_lc {wi : TI} {fi : Ev (List Dt)} {g : Tg} {ft : List Sl → Ev Bool} {fe : List Sl → Ev Dt} (hi : SI c Γ wi fi) (ht : ∀ Γ, ST c Γ tt (ft Γ)) (he : ∀ Γ, SE c Γ ta (fe Γ)) :
    SE c Γ (tLc wi (g.g c.K) tt ta g.js) (fi.bind fun ds => if szOk ds.length = true then (evLc (lcB g Γ ft fe) ds []).bind fun es => .pure (.lst es) else .stuck) := fun n ok => w_new (sn_lc Dt.lst hi ht he ok)
/-! statements -/
section
variable {ts tu' : TS} {f g : Ev Fl} {i : Nat}
theorem sw_seq {k : List Sl → Ev Fl} (ha : SW c Γ ts f) (hb : ∀ Γ', SW c Γ' tu' (k Γ')) : SW c Γ (tSeq ts tu') (f.bind fun r => match r with | .nx Γ' => k Γ' | r => .pure r) := fun n ok =>
  w_seq ((ha n ok.bindL).mono (fun Γ' m h1 => (hb Γ' m (ok.bindR h1)).mono (fun _ _ q => Hit.bind h1 q) (fun _ _ q => Hit.bind h1 q) (fun _ _ q => Hit.bind h1 q) (fun _ _ q => Hit.bind h1 q))
    (fun d m h1 => Hit.bind h1 hit_pure) (fun Γ' m h1 => Hit.bind h1 hit_pure) fun Γ' m h1 => Hit.bind h1 hit_pure)
theorem sw_asg (ha : SE c Γ ta fa) : SW c Γ (tAsg ta (gName i)) (fa.bind fun d => .pure (.nx (Γ.set i (.da d)))) := fun n ok =>
  w_asg ((ha n ok.bindL).mono fun d n1 h1 => h1.bind hit_pure)
theorem sw_asgG {is : List Nat} (ha : SE c Γ ta fa) : SW c Γ (tAsg ta (gTup c.K is.length (gsOf is))) (fa.bind fun d => (Ev.of (evG (.tup is) d Γ)).bind fun Γ' => .pure (.nx Γ')) := fun n ok =>
  w_asgG (js := is) ((ha n ok.bindL).mono fun d n1 h1 => by
    obtain ⟨x, ex⟩ := (ok.bindR h1).bindL.of
    exact wg_ev (g := .tup is) ex (h1.bind ((hit_of ex).bind hit_pure)))
theorem sw_ownL (ha : SA c Γ tl fl) : SW c Γ (tAsg (tLst tl) (gName i)) (fl.bind fun ds => if szOk ds.length = true then .pure (.nx (Γ.set i (.ol false ds))) else .stuck) := fun n ok =>
  w_own (wn_lst ((ha n ok.bindL).mono fun ds n1 h1 => by
    obtain ⟨hz, _⟩ := (ok.bindR h1).pos
    exact ⟨hz, h1.bind (hit_if hz hit_pure)⟩))
theorem sw_ownC {wi : TI} {fi : Ev (List Dt)} {g : Tg} {ft : List Sl → Ev Bool} {fe : List Sl → Ev Dt} (hi : SI c Γ wi fi) (ht : ∀ Γ, ST c Γ tt (ft Γ)) (he : ∀ Γ, SE c Γ ta (fe Γ)) :
    SW c Γ (tAsg (tLc wi (g.g c.K) tt ta g.js) (gName i)) (fi.bind fun ds => if szOk ds.length = true then (evLc (lcB g Γ ft fe) ds []).bind fun es => .pure (.nx (Γ.set i (.ol false es))) else .stuck) := fun n ok =>
  w_own (sn_lc (fun es => Fl.nx (Γ.set i (.ol false es))) hi ht he ok)
theorem sw_app (ha : SE c Γ ta fa) : SW c Γ (tDrop (tBM c.K "list" rAppend (tVar i) (tCons ta tNil))) ((Ev.of (match Γ[i]? with | some (.ol b ds) => some (b, ds) | _ => none)).bind fun x => if szLt x.2.length = true then fa.bind fun d => .pure (.nx (Γ.set i (.ol x.1 (x.2 ++ [d])))) else .stuck) := fun n ok => by
  obtain ⟨⟨b, ds⟩, ex⟩ := ok.bindL.of
  obtain ⟨hz, ok2⟩ := (ok.bindR (hit_of ex (n := n))).pos
  have hi : Γ[i]? = some (Sl.ol b ds) := by
    split at ex
    · cases ex; assumption
    · cases ex
  exact w_append hi hz ((ha n ok2.bindL).mono fun d m h1 => (hit_of ex).bind (hit_if hz (h1.bind hit_pure)))
theorem sw_ret (ha : SE c Γ ta fa) : SW c Γ (tRet ta) (fa.bind fun d => .pure (.rt d)) := fun n ok =>
  w_ret ((ha n ok.bindL).mono fun d n1 h1 => h1.bind hit_pure)
theorem sw_retO : SW c Γ (tRet (tVar i)) ((Ev.of (match Γ[i]? with | some (.ol _ ds) => some (.lst ds) | some (.da d) => some d | _ => none)).bind fun d => .pure (.rt d)) := fun n ok => by
  obtain ⟨d, ex⟩ := ok.bindL.of
  have ex0 := ex
  split at ex
  · rename_i b ds hi
    cases ex
    exact w_retOwn hi (show Hit (Ev.pure (Fl.rt (.lst ds))) n (.ok (.rt (.lst ds))) n from hit_pure)
  · rename_i e hi
    cases ex
    exact w_ret (w_var hi (show Hit (Ev.pure (Fl.rt d)) n (.ok (.rt d)) n from hit_pure))
  · cases ex
theorem sw_ifS (ht : ST c Γ tt ft) (ha : SW c Γ ts f) (hb : SW c Γ tu' g) : SW c Γ (tIfS tt ts tu') (ft.bind fun t => if t = true then f else g) := fun n ok =>
  w_ifS ((ht n ok.bindL).mono fun b n1 h1 => by
    have h2 := ok.bindR h1
    refine ite_b (fun hb' => ?_) fun hb' => ?_
    · rw [if_pos hb'] at h2
      exact (ha n1 h2).mono (fun _ _ q => Hit.bind h1 (hit_if hb' q)) (fun _ _ q => Hit.bind h1 (hit_if hb' q)) (fun _ _ q => Hit.bind h1 (hit_if hb' q)) (fun _ _ q => Hit.bind h1 (hit_if hb' q))
    · have hb2 : ¬ b = true := by rw [hb']; decide
      rw [if_neg hb2] at h2
      exact (hb n1 h2).mono (fun _ _ q => Hit.bind h1 (hit_else hb2 q)) (fun _ _ q => Hit.bind h1 (hit_else hb2 q)) (fun _ _ q => Hit.bind h1 (hit_else hb2 q)) (fun _ _ q => Hit.bind h1 (hit_else hb2 q)))
theorem sw_for {wi : TI} {fi : Ev (List Dt)} {g : Tg} {fb : List Sl → Ev Fl} (hi : SI c Γ wi fi) (hb : ∀ Γ, SW c Γ ts (fb Γ)) : SW c Γ (tFor wi (g.g c.K) ts) (fi.bind fun ds => (evFor (fun d Γ' => (Ev.of (evG g d Γ')).bind fun Γ2 => fb Γ2) ds (Γ.map outS)).bind (forEnd Γ)) := fun n ok =>
  w_for (js := g.js) ((hi n ok.bindL).mono fun ds n1 h1 => by
    have ok1 := ok.bindR h1
    refine ⟨fun j Γ' m => EOk c ((evFor (fun d Γ' => (Ev.of (evG g d Γ')).bind fun Γ2 => fb Γ2) (ds.drop j) Γ').bind (forEnd Γ)) m ∧ ∀ r m', Hit ((evFor (fun d Γ' => (Ev.of (evG g d Γ')).bind fun Γ2 => fb Γ2) (ds.drop j) Γ').bind (forEnd Γ)) m r m' → Hit (fi.bind fun ds => (evFor (fun d Γ' => (Ev.of (evG g d Γ')).bind fun Γ2 => fb Γ2) ds (Γ.map outS)).bind (forEnd Γ)) n r m', ⟨ok1, fun r m' q => h1.bind q⟩, fun j Γ' m d hd _ h => ?_, fun Γ' m _ h => ?_⟩
    · obtain ⟨h2, h3⟩ := h
      obtain ⟨hj, ed⟩ := List.getElem?_eq_some_iff.mp hd
      have ed2 : ds.drop j = d :: ds.drop (j + 1) := by rw [← ed]; exact List.drop_eq_getElem_cons hj
      rw [ed2] at h2 h3
      simp only [evFor, Ev.bind_assoc] at h2 h3
      obtain ⟨Γ2, eΓ⟩ := h2.bindL.of
      have ok2 := h2.bindR (hit_of eΓ (n := m))
      refine wg_ev eΓ ((hb Γ2 m ok2.bindL).mono (fun Γ3 m3 q => ?_) (fun e m3 q => ?_) (fun Γ3 m3 q => ?_) fun Γ3 m3 q => ?_)
      · exact ⟨ok2.bindR q, fun r m' q2 => h3 r m' ((hit_of eΓ).bind (Hit.bind q q2))⟩
      · exact h3 _ _ ((hit_of eΓ).bind (Hit.bind q hit_pure))
      · exact h3 _ _ ((hit_of eΓ).bind (Hit.bind q hit_pure))
      · exact ⟨ok2.bindR q, fun r m' q2 => h3 r m' ((hit_of eΓ).bind (Hit.bind q q2))⟩
    · obtain ⟨h2, h3⟩ := h
      rw [List.drop_length] at h3
      exact h3 _ _ hit_pure)
theorem sw_drop (ha : SE c Γ ta fa) : SW c Γ (tDrop ta) (fa.bind fun _ => .pure (.nx Γ)) := fun n ok =>
  w_drop ((ha n ok.bindL).mono fun d n1 h1 => h1.bind hit_pure)
theorem sw_rais {cn f' : Str} {C : Addr} (hm : c.mg cn = some (.ref C)) (ha : SE c Γ ta fa) : SW c Γ (tRaiseS C f' (fun cls d _ H => c.E cls d H) (tCons ta tNil)) (fa.bind fun d => .rais cn [(f', d)]) := fun n ok =>
  w_raise hm (wa_cons ((ha n ok.bindL).mono fun d n1 h1 => wa_nil ⟨d, rfl, ok.2 _ _ _ (h1.bind hit_rais)⟩))
theorem sw_parO {j : Nat} (hb : SE c Γ tb fb) : SW c Γ (tPar i j (tCons (tLst tNil) (tCons tb tNil))) (fb.bind fun e => .pure (.nx ((Γ.set i (.ol false [])).set j (.da e)))) := fun n ok =>
  w_parO ((hb n ok.bindL).mono fun e n1 h1 => h1.bind hit_pure)
theorem sw_par {j : Nat} (ha : SE c Γ ta fa) (hb : SE c Γ tb fb) : SW c Γ (tPar i j (tCons ta (tCons tb tNil))) (fa.bind fun d => fb.bind fun e => .pure (.nx ((Γ.set i (.da d)).set j (.da e)))) := fun n ok =>
  w_par (wa_cons ((ha n ok.bindL).mono fun d n1 h1 => wa_cons ((hb n1 (ok.bindR h1).bindL).mono fun e n2 h2 => wa_nil ⟨d, e, rfl, h1.bind (h2.bind hit_pure)⟩)))
end
end
end Pb
namespace Pb
open PySem PySem.Spec PyProof.Rows L2

/-- the readings' parameters in the context c -/
abbrev dnOf (c : Fc) (q : Qc) (a : Addr) (cls : Value) (d : Option Addr) : Dn := ⟨c.K, c.T, c.E, fun f => spE c.K c.mg c.T (q.f f), a, cls, d⟩
/-- what the evaluation may lean on -/
structure Sc (c : Wc) (q : Qc) (a : Addr) (cls : Value) (d : Option Addr) : Prop where
  sys : ∃ o, c.K.lookup sysModules = some o
  hd : q.hd = true → ∃ D0 dd0, c.er = some (a, D0, dd0) ∧ cls = .ref D0 ∧ d = some dd0
  lam : q.lam = true → c.er = none
  isa : ∀ cn C b, q.isa cn C = some b → ∀ D, c.mg cn = some (.ref D) → ecB c.K D = true ∧ PySem.W.kitOne c.K (.ref D) (.ref (He.ga c.K C)) = some b
  fld : ∀ cn f, q.fld cn f = true → ∀ D, c.mg cn = some (.ref D) → ecB c.K D = true ∧ PySem.W.findIn c.K (.ref D) f = some none
  exm : ∀ cn ex, q.exm cn ex = true → ∀ C, c.mg cn = some (.ref C) → PySem.W.exmOne c.K (.ref C) (.ref (He.ga c.K ex)) = some true
  rai : ∀ cn, q.rai cn = true → c.mg cn = some (.ref (He.ga c.K cn))
section
variable {c : Fc} {Γ : List Sl} {ta : TE} {fa : Ev Dt}
theorem se_if {α : Type} {p : Prop} [Decidable p] {te : TE} {f : Ev Dt} (h : p → SE c Γ te f) : SE c Γ te (if p then f else .stuck) := fun n ok => by
  obtain ⟨hp, ok2⟩ := ok.pos
  exact (h hp n ok2).mono fun d m q => hit_if hp q
theorem se_isH {a D0 dd0 : Addr} {cls : Value} {d : Option Addr} {C : Addr} {isa : Str → Option Bool} (her : c.er = some (a, D0, dd0)) (hcls : cls = .ref D0) (hd : d = some dd0) (hi : ∀ cn b, isa cn = some b → ∀ D, c.mg cn = some (.ref D) → ecB c.K D = true ∧ PySem.W.kitOne c.K (.ref D) (.ref C) = some b) (ha : SE c Γ ta fa) :
    SE c Γ (tCB (rIsHV c.K a cls d) (tCons ta (tCons (tC (.ref C)) tNil))) (fa.bind fun d => match d with | .err cn _ _ => (Ev.of (isa cn)).bind fun b => .pure (.bl b) | _ => .stuck) := fun n ok =>
  w_isHV her hcls hd ((ha n ok.bindL).mono fun d n1 h1 => by
    have ok1 := ok.bindR h1
    split at ok1
    · rename_i cn ns ds
      obtain ⟨b, eb⟩ := ok1.bindL.of
      exact ⟨cn, ns, ds, b, rfl, hi cn b eb, h1.bind ((hit_of eb).bind hit_pure)⟩
    · exact ok1.stuck.elim)
theorem se_hvf {a D0 dd0 : Addr} {cls : Value} {d : Option Addr} {f : Str} {fld : Str → Bool} (her : c.er = some (a, D0, dd0)) (hcls : cls = .ref D0) (hd : d = some dd0) (hi : ∀ cn, fld cn = true → ∀ D, c.mg cn = some (.ref D) → ecB c.K D = true ∧ PySem.W.findIn c.K (.ref D) f = some none) (ha : SE c Γ ta fa) :
    SE c Γ (tHVf c.K a cls d f ta) (fa.bind fun d => match d with | .err cn ns ds => if fld cn = true then .of ((ns.zip ds).lookup f) else .stuck | _ => .stuck) := fun n ok =>
  w_hvf her hcls hd ((ha n ok.bindL).mono fun d n1 h1 => by
    have ok1 := ok.bindR h1
    split at ok1
    · rename_i cn ns ds
      obtain ⟨hf, ok2⟩ := ok1.pos
      obtain ⟨e, ee⟩ := ok2.of
      exact ⟨cn, ns, ds, e, rfl, hi cn hf, ee, h1.bind (hit_if hf (hit_of ee))⟩
    · exact ok1.stuck.elim)
theorem hit_uncalm {α : Type} {f : Ev α} {n m : Nat} {a : α} (h : Hit f n (.ok a) m) : Hit f.calm n (.ok a) m := h.calm
theorem eok_calm {α : Type} {f : Ev α} {c' : Fc} {n : Nat} (h : EOk c f.calm n) (hx : ∀ cn es m, ¬ Hit f n (.ex cn es) m → True) : NS f n ∧ ∀ cn es m, ¬ Hit f n (.ex cn es) m := h.1.calm
end
mutual
theorem sound_e : ∀ (t : Te) (c : Fc) (q : Qc) (a : Addr) (cls : Value) (d : Option Addr) (Γ : List Sl), Sc c.toWc q a cls d → SE c Γ (den t (dnOf c q a cls d)) (evE t q Γ)
  | .var i, c, q, a, cls, d, Γ, s => by simp only [den, evE]; exact se_var
  | .non, c, q, a, cls, d, Γ, s => by simp only [den, evE]; exact se_pure fun n k h => w_non h
  | .bl b, c, q, a, cls, d, Γ, s => by simp only [den, evE]; exact se_pure fun n k h => w_bl h
  | .int i, c, q, a, cls, d, Γ, s => by simp only [den, evE]; exact se_pure fun n k h => w_int h
  | .str x, c, q, a, cls, d, Γ, s => by simp only [den, evE]; exact se_pure fun n k h => w_str h
  | .op o x y, c, q, a, cls, d, Γ, s => by simp only [den, evE]; exact se_op (sound_e x c q a cls d Γ s) (sound_e y c q a cls d Γ s)
  | .neg x, c, q, a, cls, d, Γ, s => by simp only [den, evE]; exact se_neg (sound_e x c q a cls d Γ s)
  | .not_ x, c, q, a, cls, d, Γ, s => by simp only [den, evE]; exact se_not (sound_e x c q a cls d Γ s)
  | .and_ x y, c, q, a, cls, d, Γ, s => by simp only [den, evE]; exact se_and (sound_e x c q a cls d Γ s) (sound_e y c q a cls d Γ s)
  | .or_ x y, c, q, a, cls, d, Γ, s => by simp only [den, evE]; exact se_or (sound_e x c q a cls d Γ s) (sound_e y c q a cls d Γ s)
  | .ifx t x y, c, q, a, cls, d, Γ, s => by simp only [den, evE]; exact se_ifx (sound_t t c q a cls d Γ s) (sound_e x c q a cls d Γ s) (sound_e y c q a cls d Γ s)
  | .lst as, c, q, a, cls, d, Γ, s => by simp only [den, evE]; exact se_lst (sound_a as c q a cls d Γ s)
  | .tup as, c, q, a, cls, d, Γ, s => by simp only [den, evE]; exact se_tup (sound_a as c q a cls d Γ s)
  | .dnew, c, q, a, cls, d, Γ, s => by simp only [den, evE]; exact se_pure fun n k h => w_dnew h
  | .disp ps, c, q, a, cls, d, Γ, s => by simp only [den, evE]; exact se_disp (sound_p ps c q a cls d Γ s)
  | .sl x lo hi, c, q, a, cls, d, Γ, s => by simp only [den, evE]; exact se_sl (sound_e x c q a cls d Γ s) (sound_o lo c q a cls d Γ s) (sound_o hi c q a cls d Γ s)
  | .rev x, c, q, a, cls, d, Γ, s => by simp only [den, evE]; exact se_rev (sound_e x c q a cls d Γ s)
  | .chain o p x y z, c, q, a, cls, d, Γ, s => by simp only [den, evE]; exact se_chain (sound_e x c q a cls d Γ s) (sound_e y c q a cls d Γ s) (sound_e z c q a cls d Γ s)
  | .call e f as, c, q, a, cls, d, Γ, s => by simp only [den, evE]; exact se_call (sound_a as c q a cls d Γ s)
  | .callK e f na nk as ks, c, q, a, cls, d, Γ, s => by simp only [den, evE]; exact se_callK (sound_a as c q a cls d Γ s) (sound_a ks c q a cls d Γ s)
  | .callP e f na nk ix as ks, c, q, a, cls, d, Γ, s => by simp only [den, evE]; exact se_callP (sound_a as c q a cls d Γ s) (sound_a ks c q a cls d Γ s)
  | .blt b as, c, q, a, cls, d, Γ, s => by simp only [den, evE]; exact se_blt s.sys (sound_a as c q a cls d Γ s)
  | .isi T x, c, q, a, cls, d, Γ, s => by simp only [den, evE]; exact se_isi (sound_e x c q a cls d Γ s)
  | .isiTL x, c, q, a, cls, d, Γ, s => by simp only [den, evE]; exact se_isiTL (sound_e x c q a cls d Γ s)
  | .join x y, c, q, a, cls, d, Γ, s => by simp only [den, evE]; exact se_join (sound_e x c q a cls d Γ s) (sound_e y c q a cls d Γ s)
  | .split x y, c, q, a, cls, d, Γ, s => by simp only [den, evE]; exact se_split (sound_e x c q a cls d Γ s) (sound_e y c q a cls d Γ s)
  | .index x y, c, q, a, cls, d, Γ, s => by simp only [den, evE]; exact se_index (sound_e x c q a cls d Γ s) (sound_e y c q a cls d Γ s)
  | .lc it g tt el, c, q, a, cls, d, Γ, s => by simp only [den, evE]; exact se_lc (sound_i it c q a cls d Γ s) (fun Γ => sound_t tt c q a cls d Γ s) (fun Γ => sound_e el c q a cls d Γ s)
  | .hear ex i j len rest body, c, q, a, cls, d, Γ, s => by
    simp only [den, evE]
    refine se_if (α := Unit) fun hp n ok => ?_
    obtain ⟨hlam, hij, hjl⟩ := hp
    have her := s.lam hlam
    refine w_lamL her hij hjl fun E => ?_
    refine (sound_e body (lamC c E (He.ga c.K ex) j len (fun a cls d => denS rest (dnOf (erC c a 0 0) q a cls d)) _) q a cls d (Γ.map hideS) ⟨s.sys, s.hd, s.lam, s.isa, s.fld, s.exm, s.rai⟩ n ⟨ok.catN, fun cn es m h1 => ?_⟩).mono fun v m h1 => h1.cat hit_pure
    obtain ⟨hx, ok2⟩ := (ok.catR h1).pos
    refine ⟨s.exm cn ex hx, fun a' C x hC => ?_⟩
    obtain ⟨ns, nx⟩ := ok2.1.calm
    have sc2 : Sc (erC c a' C x).toWc { q with hd := true, lam := false } a' (.ref C) (some x) := ⟨s.sys, fun _ => ⟨C, x, rfl, rfl, rfl⟩, fun z => (by cases z), s.isa, s.fld, s.exm, s.rai⟩
    have ok3 : EOk (erC c a' C x) ((evS rest { q with hd := true, lam := false } (gamE len j cn es)).bind retH) m := ⟨ns, fun cn' es' m' z => (nx cn' es' m' z).elim⟩
    refine (sound_s rest (erC c a' C x) { q with hd := true, lam := false } a' (.ref C) (some x) (gamE len j cn es) sc2 m ok3.bindL).mono (fun Γ' m' q' => ?_) (fun e m' q' => ?_) (fun Γ' m' q' => ?_) (fun Γ' m' q' => ?_)
    · exact (ok3.bindR q').stuck.elim
    · have ok4 : EOk (erC c a' C x) (if e.ne = true then Ev.pure e else .stuck) m' := ok3.bindR q'
      obtain ⟨hn, _⟩ := ok4.pos
      refine ⟨hn, h1.catX (hit_if hx ?_)⟩
      refine Hit.calm (Hit.bind q' ?_)
      show Hit (if e.ne = true then Ev.pure e else .stuck) m' (.ok e) m'
      exact hit_if hn hit_pure
    · exact (ok3.bindR q').stuck.elim
    · exact (ok3.bindR q').stuck.elim
  | .isH C x, c, q, a, cls, d, Γ, s => by
    simp only [den, evE]
    refine se_if (α := Unit) fun hp => ?_
    obtain ⟨D0, dd0, h1, h2, h3⟩ := s.hd hp
    exact se_isH h1 h2 h3 (fun cn b h => s.isa cn C b h) (sound_e x c q a cls d Γ s)
  | .hvf f x, c, q, a, cls, d, Γ, s => by
    simp only [den, evE]
    refine se_if (α := Unit) fun hp => ?_
    obtain ⟨D0, dd0, h1, h2, h3⟩ := s.hd hp
    exact se_hvf h1 h2 h3 (fun cn h => s.fld cn f h) (sound_e x c q a cls d Γ s)
theorem sound_a : ∀ (t : Ta) (c : Fc) (q : Qc) (a : Addr) (cls : Value) (d : Option Addr) (Γ : List Sl), Sc c.toWc q a cls d → SA c Γ (denA t (dnOf c q a cls d)) (evA t q Γ)
  | .nil, c, q, a, cls, d, Γ, s => by simp only [denA, evA]; exact sa_nil
  | .cons x as, c, q, a, cls, d, Γ, s => by simp only [denA, evA]; exact sa_cons (sound_e x c q a cls d Γ s) (sound_a as c q a cls d Γ s)
theorem sound_p : ∀ (t : Tp) (c : Fc) (q : Qc) (a : Addr) (cls : Value) (d : Option Addr) (Γ : List Sl), Sc c.toWc q a cls d → SP c Γ (denP t (dnOf c q a cls d)) (evP t q Γ)
  | .nil, c, q, a, cls, d, Γ, s => by simp only [denP, evP]; exact sp_nil
  | .cons k v ps, c, q, a, cls, d, Γ, s => by simp only [denP, evP]; exact sp_cons (sound_e k c q a cls d Γ s) (sound_e v c q a cls d Γ s) (sound_p ps c q a cls d Γ s)
theorem sound_t : ∀ (t : Tt) (c : Fc) (q : Qc) (a : Addr) (cls : Value) (d : Option Addr) (Γ : List Sl), Sc c.toWc q a cls d → ST c Γ (denT t (dnOf c q a cls d)) (evT t q Γ)
  | .test x, c, q, a, cls, d, Γ, s => by simp only [denT, evT]; exact st_test (sound_e x c q a cls d Γ s)
  | .tr x, c, q, a, cls, d, Γ, s => by simp only [denT, evT]; exact st_tr (sound_e x c q a cls d Γ s)
  | .and_ x y, c, q, a, cls, d, Γ, s => by simp only [denT, evT]; exact st_and (sound_t x c q a cls d Γ s) (sound_t y c q a cls d Γ s)
  | .or_ x y, c, q, a, cls, d, Γ, s => by simp only [denT, evT]; exact st_or (sound_t x c q a cls d Γ s) (sound_t y c q a cls d Γ s)
  | .not_ x, c, q, a, cls, d, Γ, s => by simp only [denT, evT]; exact st_not (sound_t x c q a cls d Γ s)
  | .yes, c, q, a, cls, d, Γ, s => by simp only [denT, evT]; exact st_yes
theorem sound_o : ∀ (t : To) (c : Fc) (q : Qc) (a : Addr) (cls : Value) (d : Option Addr) (Γ : List Sl), Sc c.toWc q a cls d → SO c Γ (denO t (dnOf c q a cls d)) (evO t q Γ)
  | .none, c, q, a, cls, d, Γ, s => by simp only [denO, evO]; exact so_none
  | .some x, c, q, a, cls, d, Γ, s => by simp only [denO, evO]; exact so_some (sound_e x c q a cls d Γ s)
theorem sound_i : ∀ (t : Ti) (c : Fc) (q : Qc) (a : Addr) (cls : Value) (d : Option Addr) (Γ : List Sl), Sc c.toWc q a cls d → SI c Γ (denI t (dnOf c q a cls d)) (evI t q Γ)
  | .sq x, c, q, a, cls, d, Γ, s => by simp only [denI, evI]; exact si_sq (sound_e x c q a cls d Γ s)
  | .rng1 as, c, q, a, cls, d, Γ, s => by simp only [denI, evI]; exact si_rng1 (sound_a as c q a cls d Γ s)
  | .rng2 as, c, q, a, cls, d, Γ, s => by simp only [denI, evI]; exact si_rng2 (sound_a as c q a cls d Γ s)
theorem sound_s : ∀ (t : Ts) (c : Fc) (q : Qc) (a : Addr) (cls : Value) (d : Option Addr) (Γ : List Sl), Sc c.toWc q a cls d → SW c Γ (denS t (dnOf c q a cls d)) (evS t q Γ)
  | .seq x y, c, q, a, cls, d, Γ, s => by simp only [denS, evS]; exact sw_seq (sound_s x c q a cls d Γ s) fun Γ' => sound_s y c q a cls d Γ' s
  | .asg i x, c, q, a, cls, d, Γ, s => by simp only [denS, evS]; exact sw_asg (sound_e x c q a cls d Γ s)
  | .asgG is x, c, q, a, cls, d, Γ, s => by simp only [denS, evS]; exact sw_asgG (sound_e x c q a cls d Γ s)
  | .ownL i as, c, q, a, cls, d, Γ, s => by simp only [denS, evS]; exact sw_ownL (sound_a as c q a cls d Γ s)
  | .ownC i it g tt el, c, q, a, cls, d, Γ, s => by simp only [denS, evS]; exact sw_ownC (sound_i it c q a cls d Γ s) (fun Γ => sound_t tt c q a cls d Γ s) (fun Γ => sound_e el c q a cls d Γ s)
  | .app i x, c, q, a, cls, d, Γ, s => by simp only [denS, evS]; exact sw_app (sound_e x c q a cls d Γ s)
  | .rel i x, c, q, a, cls, d, Γ, s => by
    simp only [denS, evS]
    intro n ok
    split at ok
    · rename_i ds hi
      exact w_rel hi (sound_s x c q a cls d _ s n ok)
    · exact sound_s x c q a cls d Γ s n ok
  | .ret x, c, q, a, cls, d, Γ, s => by simp only [denS, evS]; exact sw_ret (sound_e x c q a cls d Γ s)
  | .retO i, c, q, a, cls, d, Γ, s => by simp only [denS, evS]; exact sw_retO
  | .retN, c, q, a, cls, d, Γ, s => by simp only [denS, evS]; exact fun n ok => w_retN hit_pure
  | .ifS t x y, c, q, a, cls, d, Γ, s => by simp only [denS, evS]; exact sw_ifS (sound_t t c q a cls d Γ s) (sound_s x c q a cls d Γ s) (sound_s y c q a cls d Γ s)
  | .for_ it g x, c, q, a, cls, d, Γ, s => by simp only [denS, evS]; exact sw_for (sound_i it c q a cls d Γ s) fun Γ' => sound_s x c q a cls d Γ' s
  | .next, c, q, a, cls, d, Γ, s => by simp only [denS, evS]; exact fun n ok => w_next hit_pure
  | .brk, c, q, a, cls, d, Γ, s => by simp only [denS, evS]; exact fun n ok => w_break hit_pure
  | .cont, c, q, a, cls, d, Γ, s => by simp only [denS, evS]; exact fun n ok => w_cont hit_pure
  | .drop x, c, q, a, cls, d, Γ, s => by simp only [denS, evS]; exact sw_drop (sound_e x c q a cls d Γ s)
  | .rais cn f x, c, q, a, cls, d, Γ, s => by
    simp only [denS, evS]
    intro n ok
    obtain ⟨hp, ok2⟩ := ok.pos
    exact (sw_rais (s.rai cn hp) (sound_e x c q a cls d Γ s) n ok2).mono (fun _ _ z => hit_if hp z) (fun _ _ z => hit_if hp z) (fun _ _ z => hit_if hp z) (fun _ _ z => hit_if hp z)
  | .parO i j y, c, q, a, cls, d, Γ, s => by simp only [denS, evS]; exact sw_parO (sound_e y c q a cls d Γ s)
  | .par i j x y, c, q, a, cls, d, Γ, s => by simp only [denS, evS]; exact sw_par (sound_e x c q a cls d Γ s) (sound_e y c q a cls d Γ s)
end
end Pb
namespace Pb
open PySem PySem.Spec PyProof.Rows L2

/-! ### what is told of the error classes -/
structure Tab where
  isa : List (Str × Str × Bool)
  fld : List (Str × Str)
  exm : List (Str × Str)
  rai : List Str
def Tab.isaF (t : Tab) (cn C : Str) : Option Bool := (t.isa.find? fun x => decide (x.1 = cn ∧ x.2.1 = C)).map (·.2.2)
def Tab.fldF (t : Tab) (cn f : Str) : Bool := t.fld.any fun x => decide (x.1 = cn ∧ x.2 = f)
def Tab.exmF (t : Tab) (cn f : Str) : Bool := t.exm.any fun x => decide (x.1 = cn ∧ x.2 = f)
def Tab.raiF (t : Tab) (cn : Str) : Bool := t.rai.any fun x => decide (x = cn)
structure TabOk (t : Tab) (K : PySem.W.Frag) (mg : Str → Option Value) : Prop where
  sys : ∃ o, K.lookup sysModules = some o
  isa : ∀ x ∈ t.isa, ∀ D, mg x.1 = some (.ref D) → ecB K D = true ∧ PySem.W.kitOne K (.ref D) (.ref (He.ga K x.2.1)) = some x.2.2
  fld : ∀ x ∈ t.fld, ∀ D, mg x.1 = some (.ref D) → ecB K D = true ∧ PySem.W.findIn K (.ref D) x.2 = some none
  exm : ∀ x ∈ t.exm, ∀ D, mg x.1 = some (.ref D) → PySem.W.exmOne K (.ref D) (.ref (He.ga K x.2)) = some true
  rai : ∀ x ∈ t.rai, mg x = some (.ref (He.ga K x))
/-- the evaluation's parameters in a body -/
abbrev qOf (f : Nat → List Dt → Ev Dt) (t : Tab) (lam : Bool) : Qc := ⟨f, false, lam, t.isaF, t.fldF, t.exmF, t.raiF⟩
theorem sc_of {c : Wc} {t : Tab} {f : Nat → List Dt → Ev Dt} {lam : Bool} (h : TabOk t c.K c.mg) (hl : lam = true → c.er = none) : Sc c (qOf f t lam) 0 .none none where
  sys := h.sys
  hd := fun z => by cases z
  lam := hl
  isa := fun cn C b e D hD => by
    obtain ⟨x, hx, rfl⟩ := Option.map_eq_some_iff.mp e
    have h2 := List.find?_some hx
    obtain ⟨rfl, rfl⟩ := of_decide_eq_true h2
    exact h.isa x (List.mem_of_find?_eq_some hx) D hD
  fld := fun cn f e D hD => by
    obtain ⟨x, hx, h2⟩ := List.any_eq_true.mp e
    obtain ⟨rfl, rfl⟩ := of_decide_eq_true h2
    exact h.fld x hx D hD
  exm := fun cn f e D hD => by
    obtain ⟨x, hx, h2⟩ := List.any_eq_true.mp e
    obtain ⟨rfl, rfl⟩ := of_decide_eq_true h2
    exact h.exm x hx D hD
  rai := fun cn e => by
    obtain ⟨x, hx, h2⟩ := List.any_eq_true.mp e
    have h2 := of_decide_eq_true h2
    subst h2
    exact h.rai x hx
theorem nodup_fst {α β : Type} : ∀ {l : List (α × β)} {p a : α × β}, (l.map (·.1)).Nodup → p ∈ l → a ∈ l → p.1 = a.1 → p = a
  | x :: l, p, a, h, hp, ha, e => by
    rw [List.map_cons, List.nodup_cons] at h
    rcases List.mem_cons.mp hp with rfl | hp'
    · rcases List.mem_cons.mp ha with rfl | ha'
      · rfl
      · exact absurd (e ▸ List.mem_map_of_mem ha') h.1
    · rcases List.mem_cons.mp ha with rfl | ha'
      · exact absurd (e ▸ List.mem_map_of_mem hp') h.1
      · exact nodup_fst h.2 hp' ha' e
/-! ### a def, evaluated: ar values, n slots; nox: it raises nothing; lam: it makes lambdas -/
def gamN (n : Nat) (ds : List Dt) : List Sl := ds.map Sl.da ++ List.replicate (n - ds.length) Sl.un
def runF (ar n : Nat) (nox lam : Bool) (body : Ts) (f : Nat → List Dt → Ev Dt) (t : Tab) (ds : List Dt) : Ev Dt :=
  if ds.length = ar ∧ (lam = true → Dt.nes ds = true) then selF (!nox) ((evS body (qOf f t lam) (gamN n ds)).bind retE) else .stuck
def drawF (ds : List Dt) : Ev Dt := match ds with
  | [.pen, .int m] => .draw m
  | _ => .stuck
theorem draw_ns {ds : List Dt} {n : Nat} (h : NS (drawF ds) n) : ∃ m : Int, ds = [.pen, .int m] ∧ 0 < m ∧ m < 1073741824 ∧ drawF ds = Ev.draw m ∧ 0 < n := by
  obtain ⟨l, hl⟩ := lens n
  obtain ⟨x, e⟩ := h l hl
  unfold drawF at e
  split at e
  · rename_i m
    unfold Ev.draw at e
    split at e
    · rename_i hm
      refine ⟨m, rfl, hm.1, hm.2, rfl, ?_⟩
      cases l with
      | nil => cases e
      | cons x l => simp at hl; omega
    · cases e
  · cases e
section
variable {P : Program} {w : World} {K : PySem.W.Frag} {mg : Str → Option Value} {T : List (Addr × Str)} {base : Heap} {x qual : Str} {params : Arguments} {body : List Stmt} {scope : Scope} {dvs : List V} {kws : List (Str × V)} {f : Addr} {fd : FuncData} {F : Nat → List Dt → Ev Dt} {t : Tab} {tm : Ts} {ar n : Nat}
theorem fn_ws {c : Fc} {q : Qc} {a : Addr} {cls : Value} {d : Option Addr} {N : List Str} {ds : List Dt} {m : Nat} (s : Sc c.toWc q a cls d) (ok : EOk c ((evS tm q (gam N ds)).bind retE) m) : Ws c (gam N ds) m (denS tm (dnOf c q a cls d)) (ndE ((evS tm q (gam N ds)).bind retE) m) :=
  (sound_s tm c q a cls d _ s m ok.bindL).mono (fun Γ' m' h => Hit.bind h hit_pure) (fun e m' h => Hit.bind h hit_pure) (fun Γ' m' h => (ok.bindR h).stuck.elim) fun Γ' m' h => (ok.bindR h).stuck.elim
theorem run_len {nox lam : Bool} {ds : List Dt} {m : Nat} (h : NS (runF ar n nox lam tm F t ds) m) : ds.length = ar ∧ (lam = true → Dt.nes ds = true) := by
  obtain ⟨l, hl⟩ := lens m
  obtain ⟨x, e⟩ := h l hl
  unfold runF at e
  split at e
  · assumption
  · cases e
theorem run_eq {nox lam : Bool} {ds : List Dt} (h : ds.length = ar ∧ (lam = true → Dt.nes ds = true)) : runF ar n nox lam tm F t ds = selF (!nox) ((evS tm (qOf F t lam) (gamN n ds)).bind retE) := if_pos h
/-- a def that raises nothing -/
theorem okF0 {b : Bool} {N ps : List Str} {k : Nat} (Fd : FunD K x qual params body scope dvs kws f fd) (sc : FnScope N ps scope) (hN : N.length = n) (hps : ps.length = ar) (ht : TabOk t K mg)
    (hder : ∀ (cdv : Value) (A : Around) (outer : List Env) (s : Shared) (H : Hp) (E : XK), RoomG b k (A.deeper (envOfC qual scope s.heap.objs.size f cdv)) → PSs (cxOf CX0 P w K mg base N qual scope f cdv A outer s H E).nox body (denS tm ⟨K, T, E0, fun id => spE K mg T (F id), 0, .none, none⟩)) :
    FnG b P w K mg base CX0 (k + 1) f fd ps (spE K mg T (runF ar n true false tm F t)) := by
  refine okE0 Fd sc (fun ds m h => by rw [(run_len h).1, hps]) fun cdv A outer s H E hr => ⟨_, hder cdv A outer s H E hr, fun c hK hm hT hE ds m hns => ?_⟩
  have e := run_eq (nox := true) (F := F) (t := t) (tm := tm) (n := n) (run_len hns)
  rw [e] at hns ⊢
  subst hN
  obtain ⟨h1, h2⟩ := NS.calm hns
  subst hK hm hT
  have w := fn_ws (N := N) (c := c) (q := qOf F t false) (a := 0) (cls := .none) (d := none) (tm := tm) (ds := ds) (m := m) (sc_of ht fun z => by cases z) ⟨h1, fun cn es m' z => (h2 cn es m' z).elim⟩
  have w2 := w.mono (M' := ndE (selF (!true) ((evS tm (qOf F t false) (gamN N.length ds)).bind retE)) m) (fun _ _ z => Hit.calm z) (fun _ _ z => Hit.calm z) (fun _ _ z => z) (fun _ _ z => z)
  rw [show dnOf c (qOf F t false) 0 .none none = ⟨c.K, c.T, E0, fun id => spE c.K c.mg c.T (F id), 0, .none, none⟩ by unfold dnOf; rw [hE]] at w2
  exact w2
/-- a def that may raise -/
theorem okFX {b : Bool} {N ps : List Str} {k : Nat} (Fd : FunD K x qual params body scope dvs kws f fd) (sc : FnScope N ps scope) (hN : N.length = n) (hps : ps.length = ar) (ht : TabOk t K mg)
    (hder : ∀ (cdv : Value) (A : Around) (outer : List Env) (s : Shared) (H : Hp) (E : XK), RoomG b k (A.deeper (envOfC qual scope s.heap.objs.size f cdv)) → PSs (cxOf (L2.CX P w) P w K mg base N qual scope f cdv A outer s H E) body (denS tm ⟨K, T, E, fun id => spE K mg T (F id), 0, .none, none⟩)) :
    FnG b P w K mg base (L2.CX P w) (k + 1) f fd ps (spE K mg T (runF ar n false false tm F t)) := by
  refine okEX Fd sc (fun ds m h => by rw [(run_len h).1, hps]) fun cdv A outer s H E hr => ⟨_, hder cdv A outer s H E hr, fun c ds m hK hm hT hE ok => ?_⟩
  have e := run_eq (nox := false) (F := F) (t := t) (tm := tm) (n := n) (run_len ok.1)
  rw [e] at ok ⊢
  subst hN hK hm hT hE
  exact fn_ws (N := N) (c := c) (q := qOf F t false) (a := 0) (cls := .none) (d := none) (tm := tm) (ds := ds) (m := m) (sc_of ht fun z => by cases z) ok
/-- a def that makes lambdas -/
theorem okFm {b : Bool} {N ps : List Str} {k : Nat} (Fd : FunD K x qual params body scope dvs kws f fd) (sc : FnScope N ps scope) (hN : N.length = n) (hps : ps.length = ar) (ht : TabOk t K mg)
    (hder : ∀ (A : Around) (outer : List Env) (s : Shared) (H : Hp) (E : XK), RoomG b k (A.deeper (envOfC qual scope s.heap.objs.size f fd.code)) → PSs (cxOf CX0 P w K mg base N qual scope f fd.code A outer s H E).nox body (denS tm ⟨K, T, E0, fun id => spE K mg T (F id), 0, .none, none⟩)) :
    FnG b P w K mg base CX0 (k + 1) f fd ps (spE K mg T (runF ar n true true tm F t)) := by
  refine okE0m Fd sc (fun ds m h => by rw [(run_len h).1, hps]) (fun ds m h => (run_len h).2 rfl) fun A outer s H E hr => ⟨_, hder A outer s H E hr, fun c hK hm hT hE her ds m hns => ?_⟩
  have e := run_eq (nox := true) (F := F) (t := t) (tm := tm) (n := n) (run_len hns)
  rw [e] at hns ⊢
  subst hN
  obtain ⟨h1, h2⟩ := NS.calm hns
  subst hK hm hT
  have w := fn_ws (N := N) (c := c) (q := qOf F t true) (a := 0) (cls := .none) (d := none) (tm := tm) (ds := ds) (m := m) (sc_of ht fun _ => her) ⟨h1, fun cn es m' z => (h2 cn es m' z).elim⟩
  have w2 := w.mono (M' := ndE (selF (!true) ((evS tm (qOf F t true) (gamN N.length ds)).bind retE)) m) (fun _ _ z => Hit.calm z) (fun _ _ z => Hit.calm z) (fun _ _ z => z) (fun _ _ z => z)
  rw [show dnOf c (qOf F t true) 0 .none none = ⟨c.K, c.T, E0, fun id => spE c.K c.mg c.T (F id), 0, .none, none⟩ by unfold dnOf; rw [hE]] at w2
  exact w2
/-- the law's rest -/
theorem law_ws {m : Nat} {N : Nat} (h : ∀ l : List Nat, l.length = N → ∃ l', evS tm (qOf F t true) (gam1 m) l = some (.ok (.rt (.bl true)), l')) (ht : TabOk t K mg) :
    ∀ c : Fc, c.K = K → c.mg = mg → c.T = T → c.er = none → c.E = E0 → Ws c (gam1 m) N (denS tm ⟨K, T, E0, fun id => spE K mg T (F id), 0, .none, none⟩) { nx := fun _ _ => False, rt := fun d _ => d = .bl true } := by
  intro c hK hm hT her hE
  subst hK hm hT
  have no : ∀ r m', Hit (evS tm (qOf F t true) (gam1 m)) N r m' → r = .ok (.rt (.bl true)) := fun r m' q => by
    obtain ⟨u, hu, e⟩ := q
    obtain ⟨l, hl⟩ := lens m'
    obtain ⟨l', e2⟩ := h (u ++ l) (app_len hu hl)
    rw [e l hl] at e2
    cases e2
    rfl
  have ok : EOk c (evS tm (qOf F t true) (gam1 m)) N := ⟨fun l hl => let ⟨l', e⟩ := h l hl; ⟨_, e⟩, fun cn es m' q => by cases no _ _ q⟩
  have w := sound_s tm c (qOf F t true) 0 .none none (gam1 m) (sc_of ht fun _ => her) N ok
  rw [show dnOf c (qOf F t true) 0 .none none = ⟨c.K, c.T, E0, fun id => spE c.K c.mg c.T (F id), 0, .none, none⟩ by unfold dnOf; rw [hE]] at w
  exact w.mono (fun Γ' m' q => by cases no _ _ q) (fun e m' q => by have z := no _ _ q; injection z with z; injection z with z) (fun Γ' m' q => by cases no _ _ q) (fun Γ' m' q => by cases no _ _ q)
end
end Pb
namespace Pb
open PySem PySem.Spec PyProof.Rows L2

@[simp] theorem evE_var (i : _) (q : Qc) (Γ : List Sl) : evE (Te.var i) q Γ = .of (varE Γ i) := rfl
@[simp] theorem evE_non  (q : Qc) (Γ : List Sl) : evE (Te.non ) q Γ = .pure .non := rfl
@[simp] theorem evE_bl (b : _) (q : Qc) (Γ : List Sl) : evE (Te.bl b) q Γ = .pure (.bl b) := rfl
@[simp] theorem evE_int (i : _) (q : Qc) (Γ : List Sl) : evE (Te.int i) q Γ = .pure (.int i) := rfl
@[simp] theorem evE_str (x : _) (q : Qc) (Γ : List Sl) : evE (Te.str x) q Γ = .pure (.str x) := rfl
@[simp] theorem evE_op (o : _) (a : _) (b : _) (q : Qc) (Γ : List Sl) : evE (Te.op o a b) q Γ = (evE a q Γ).bind fun d => (evE b q Γ).bind fun e => .of (o.ev d e) := rfl
@[simp] theorem evE_neg (a : _) (q : Qc) (Γ : List Sl) : evE (Te.neg a) q Γ = (evE a q Γ).bind fun d => match d with | .int i => .pure (.int (-i)) | _ => .stuck := rfl
@[simp] theorem evE_not_ (a : _) (q : Qc) (Γ : List Sl) : evE (Te.not_ a) q Γ = (evE a q Γ).bind fun d => (Ev.of (truD d)).bind fun b => .pure (.bl (!b)) := rfl
@[simp] theorem evE_and_ (a : _) (b : _) (q : Qc) (Γ : List Sl) : evE (Te.and_ a b) q Γ = (evE a q Γ).bind fun d => (Ev.of (truD d)).bind fun t => if t = true then evE b q Γ else .pure d := rfl
@[simp] theorem evE_or_ (a : _) (b : _) (q : Qc) (Γ : List Sl) : evE (Te.or_ a b) q Γ = (evE a q Γ).bind fun d => (Ev.of (truD d)).bind fun t => if t = true then .pure d else evE b q Γ := rfl
@[simp] theorem evE_ifx (t : _) (a : _) (b : _) (q : Qc) (Γ : List Sl) : evE (Te.ifx t a b) q Γ = (evT t q Γ).bind fun t => if t = true then evE a q Γ else evE b q Γ := rfl
@[simp] theorem evE_lst (as : _) (q : Qc) (Γ : List Sl) : evE (Te.lst as) q Γ = (evA as q Γ).bind fun ds => if szOk ds.length = true then .pure (.lst ds) else .stuck := rfl
@[simp] theorem evE_tup (as : _) (q : Qc) (Γ : List Sl) : evE (Te.tup as) q Γ = (evA as q Γ).bind fun ds => if szOk ds.length = true then .pure (.tup ds) else .stuck := rfl
@[simp] theorem evE_dnew  (q : Qc) (Γ : List Sl) : evE (Te.dnew ) q Γ = .pure (.dic [] []) := rfl
@[simp] theorem evE_disp (ps : _) (q : Qc) (Γ : List Sl) : evE (Te.disp ps) q Γ = (evP ps q Γ).bind fun kd => if kd.1.Nodup ∧ kd.1.length ≤ 15 then .pure (.dic kd.1 kd.2) else .stuck := rfl
@[simp] theorem evE_sl (a : _) (lo : _) (hi : _) (q : Qc) (Γ : List Sl) : evE (Te.sl a lo hi) q Γ = (evE a q Γ).bind fun d => (evO lo q Γ).bind fun lo => (evO hi q Γ).bind fun hi => .of (slE d lo hi) := rfl
@[simp] theorem evE_rev (a : _) (q : Qc) (Γ : List Sl) : evE (Te.rev a) q Γ = (evE a q Γ).bind fun d => .of (revE d) := rfl
@[simp] theorem evE_chain (o : _) (p : _) (a : _) (b : _) (c : _) (q : Qc) (Γ : List Sl) : evE (Te.chain o p a b c) q Γ = (evE a q Γ).bind fun x => (evE b q Γ).bind fun y => (Ev.of (o.ev x y)).bind fun r => match r with
    | .bl t => if t = true then (evE c q Γ).bind fun z => .of (p.ev y z) else .pure (.bl false)
    | _ => .stuck := rfl
@[simp] theorem evE_call (e : _) (f : _) (as : _) (q : Qc) (Γ : List Sl) : evE (Te.call e f as) q Γ = (evA as q Γ).bind fun ds => selF e (q.f f ds) := rfl
@[simp] theorem evE_callK (e : _) (f : _) (na : _) (nk : _) (as : _) (ks : _) (q : Qc) (Γ : List Sl) : evE (Te.callK e f na nk as ks) q Γ = (evA as q Γ).bind fun ds => (evA ks q Γ).bind fun es => if ds.length = na ∧ es.length = nk then selF e (q.f f (ds ++ es)) else .stuck := rfl
@[simp] theorem evE_callP (e : _) (f : _) (na : _) (nk : _) (ix : _) (as : _) (ks : _) (q : Qc) (Γ : List Sl) : evE (Te.callP e f na nk ix as ks) q Γ = (evA as q Γ).bind fun ds => (evA ks q Γ).bind fun es => if ds.length = na ∧ es.length = nk then selF e (q.f f (gPm ix ds es)) else .stuck := rfl
@[simp] theorem evE_blt (b : _) (as : _) (q : Qc) (Γ : List Sl) : evE (Te.blt b as) q Γ = (evA as q Γ).bind fun ds => .of (b.ev ds) := rfl
@[simp] theorem evE_isi (T : _) (a : _) (q : Qc) (Γ : List Sl) : evE (Te.isi T a) q Γ = (evE a q Γ).bind fun d => .of (isiE T d) := rfl
@[simp] theorem evE_isiTL (a : _) (q : Qc) (Γ : List Sl) : evE (Te.isiTL a) q Γ = (evE a q Γ).bind fun d => .of (d.tn.map fun t => .bl (t.sub .tuple || t.sub .list)) := rfl
@[simp] theorem evE_join (a : _) (b : _) (q : Qc) (Γ : List Sl) : evE (Te.join a b) q Γ = (evE a q Γ).bind fun d => (Ev.of (strE d)).bind fun z => (evE b q Γ).bind fun e => .of (joinE z e) := rfl
@[simp] theorem evE_split (a : _) (b : _) (q : Qc) (Γ : List Sl) : evE (Te.split a b) q Γ = (evE a q Γ).bind fun d => (Ev.of (strE d)).bind fun z => (evE b q Γ).bind fun e => .of (splitE z e) := rfl
@[simp] theorem evE_index (a : _) (b : _) (q : Qc) (Γ : List Sl) : evE (Te.index a b) q Γ = (evE a q Γ).bind fun d => (Ev.of (lstE d)).bind fun z => (evE b q Γ).bind fun e => .of (idxE z e) := rfl
@[simp] theorem evE_lc (it : _) (g : _) (tt : _) (el : _) (q : Qc) (Γ : List Sl) : evE (Te.lc it g tt el) q Γ = (evI it q Γ).bind fun ds => if szOk ds.length = true then (evLc (fun d => (Ev.of (evG g d (wipeG Γ g.js))).bind fun Γ2 => (evT tt q Γ2).bind fun b => if b = true then (evE el q Γ2).bind fun e => .pure (some e) else .pure none) ds []).bind fun es => .pure (.lst es) else .stuck := rfl
@[simp] theorem evE_hear (ex : _) (i : _) (j : _) (len : _) (rest : _) (body : _) (q : Qc) (Γ : List Sl) : evE (Te.hear ex i j len rest body) q Γ = if q.lam = true ∧ i ≠ j ∧ j < len then (evE body q (Γ.map hideS)).catch_ (fun v => .pure (.lst [v])) (fun cn es => if q.exm cn ex = true then ((evS rest { q with hd := true, lam := false } (gamE len j cn es)).bind retH).calm else .stuck) else .stuck := rfl
@[simp] theorem evE_isH (C : _) (a : _) (q : Qc) (Γ : List Sl) : evE (Te.isH C a) q Γ = if q.hd = true then (evE a q Γ).bind fun d => match d with
    | .err cn _ _ => (Ev.of (q.isa cn C)).bind fun b => .pure (.bl b)
    | _ => .stuck else .stuck := rfl
@[simp] theorem evE_hvf (f : _) (a : _) (q : Qc) (Γ : List Sl) : evE (Te.hvf f a) q Γ = if q.hd = true then (evE a q Γ).bind fun d => match d with
    | .err cn ns ds => if q.fld cn f = true then .of ((ns.zip ds).lookup f) else .stuck
    | _ => .stuck else .stuck := rfl
@[simp] theorem evA_nil  (q : Qc) (Γ : List Sl) : evA (Ta.nil ) q Γ = .pure [] := rfl
@[simp] theorem evA_cons (a : _) (as : _) (q : Qc) (Γ : List Sl) : evA (Ta.cons a as) q Γ = (evE a q Γ).bind fun d => (evA as q Γ).bind fun ds => .pure (d :: ds) := rfl
@[simp] theorem evP_nil  (q : Qc) (Γ : List Sl) : evP (Tp.nil ) q Γ = .pure ([], []) := rfl
@[simp] theorem evP_cons (k : _) (v : _) (ps : _) (q : Qc) (Γ : List Sl) : evP (Tp.cons k v ps) q Γ = (evE k q Γ).bind fun d => (Ev.of (keyD d)).bind fun key => (evE v q Γ).bind fun e => (evP ps q Γ).bind fun kd => .pure (key :: kd.1, e :: kd.2) := rfl
@[simp] theorem evT_test (a : _) (q : Qc) (Γ : List Sl) : evT (Tt.test a) q Γ = (evE a q Γ).bind fun d => match d with | .bl b => .pure b | _ => .stuck := rfl
@[simp] theorem evT_tr (a : _) (q : Qc) (Γ : List Sl) : evT (Tt.tr a) q Γ = (evE a q Γ).bind fun d => .of (truD d) := rfl
@[simp] theorem evT_and_ (a : _) (b : _) (q : Qc) (Γ : List Sl) : evT (Tt.and_ a b) q Γ = (evT a q Γ).bind fun t => if t = true then evT b q Γ else .pure false := rfl
@[simp] theorem evT_or_ (a : _) (b : _) (q : Qc) (Γ : List Sl) : evT (Tt.or_ a b) q Γ = (evT a q Γ).bind fun t => if t = true then .pure true else evT b q Γ := rfl
@[simp] theorem evT_not_ (a : _) (q : Qc) (Γ : List Sl) : evT (Tt.not_ a) q Γ = (evT a q Γ).bind fun t => .pure (!t) := rfl
@[simp] theorem evT_yes  (q : Qc) (Γ : List Sl) : evT (Tt.yes ) q Γ = .pure true := rfl
@[simp] theorem evO_none  (q : Qc) (Γ : List Sl) : evO (To.none ) q Γ = .pure none := rfl
@[simp] theorem evO_some (a : _) (q : Qc) (Γ : List Sl) : evO (To.some a) q Γ = (evE a q Γ).bind fun d => match d with | .int i => .pure (some i) | _ => .stuck := rfl
@[simp] theorem evI_sq (a : _) (q : Qc) (Γ : List Sl) : evI (Ti.sq a) q Γ = (evE a q Γ).bind fun d => .of (seqD d) := rfl
theorem evI_rng1 (as : _) (q : Qc) (Γ : List Sl) : evI (Ti.rng1 as) q Γ = (evA as q Γ).bind fun ds => match ds with
    | [.int j] => if rOk j = true then .pure (upTo 0 j.toNat) else .stuck
    | _ => .stuck := rfl
theorem evI_rng2 (as : _) (q : Qc) (Γ : List Sl) : evI (Ti.rng2 as) q Γ = (evA as q Γ).bind fun ds => match ds with
    | [.int i, .int j] => if rOk i = true ∧ rOk j = true then .pure (upTo i (j - i).toNat) else .stuck
    | _ => .stuck := rfl
@[simp] theorem evS_seq (a : _) (b : _) (q : Qc) (Γ : List Sl) : evS (Ts.seq a b) q Γ = (evS a q Γ).bind fun r => match r with | .nx Γ' => evS b q Γ' | r => .pure r := rfl
@[simp] theorem evS_asg (i : _) (a : _) (q : Qc) (Γ : List Sl) : evS (Ts.asg i a) q Γ = (evE a q Γ).bind fun d => .pure (.nx (Γ.set i (.da d))) := rfl
@[simp] theorem evS_asgG (is : _) (a : _) (q : Qc) (Γ : List Sl) : evS (Ts.asgG is a) q Γ = (evE a q Γ).bind fun d => (Ev.of (evG (.tup is) d Γ)).bind fun Γ' => .pure (.nx Γ') := rfl
@[simp] theorem evS_ownL (i : _) (as : _) (q : Qc) (Γ : List Sl) : evS (Ts.ownL i as) q Γ = (evA as q Γ).bind fun ds => if szOk ds.length = true then .pure (.nx (Γ.set i (.ol false ds))) else .stuck := rfl
@[simp] theorem evS_ownC (i : _) (it : _) (g : _) (tt : _) (el : _) (q : Qc) (Γ : List Sl) : evS (Ts.ownC i it g tt el) q Γ = (evI it q Γ).bind fun ds => if szOk ds.length = true then (evLc (fun d => (Ev.of (evG g d (wipeG Γ g.js))).bind fun Γ2 => (evT tt q Γ2).bind fun b => if b = true then (evE el q Γ2).bind fun e => .pure (some e) else .pure none) ds []).bind fun es => .pure (.nx (Γ.set i (.ol false es))) else .stuck := rfl
@[simp] theorem evS_app (i : _) (a : _) (q : Qc) (Γ : List Sl) : evS (Ts.app i a) q Γ = (Ev.of (match Γ[i]? with | some (.ol b ds) => some (b, ds) | _ => none)).bind fun x => if szLt x.2.length = true then (evE a q Γ).bind fun d => .pure (.nx (Γ.set i (.ol x.1 (x.2 ++ [d])))) else .stuck := rfl
@[simp] theorem evS_rel (i : _) (s : _) (q : Qc) (Γ : List Sl) : evS (Ts.rel i s) q Γ = match Γ[i]? with
    | some (.ol false ds) => evS s q (Γ.set i (.da (.lst ds)))
    | _ => evS s q Γ := rfl
@[simp] theorem evS_ret (a : _) (q : Qc) (Γ : List Sl) : evS (Ts.ret a) q Γ = (evE a q Γ).bind fun d => .pure (.rt d) := rfl
@[simp] theorem evS_retO (i : _) (q : Qc) (Γ : List Sl) : evS (Ts.retO i) q Γ = (Ev.of (match Γ[i]? with | some (.ol _ ds) => some (.lst ds) | some (.da d) => some d | _ => none)).bind fun d => .pure (.rt d) := rfl
@[simp] theorem evS_retN  (q : Qc) (Γ : List Sl) : evS (Ts.retN ) q Γ = .pure (.rt .non) := rfl
@[simp] theorem evS_ifS (t : _) (a : _) (b : _) (q : Qc) (Γ : List Sl) : evS (Ts.ifS t a b) q Γ = (evT t q Γ).bind fun t => if t = true then evS a q Γ else evS b q Γ := rfl
@[simp] theorem evS_for_ (it : _) (g : _) (b : _) (q : Qc) (Γ : List Sl) : evS (Ts.for_ it g b) q Γ = (evI it q Γ).bind fun ds => (evFor (fun d Γ' => (Ev.of (evG g d Γ')).bind fun Γ2 => evS b q Γ2) ds (Γ.map outS)).bind (forEnd Γ) := rfl
@[simp] theorem evS_next  (q : Qc) (Γ : List Sl) : evS (Ts.next ) q Γ = .pure (.nx Γ) := rfl
@[simp] theorem evS_brk  (q : Qc) (Γ : List Sl) : evS (Ts.brk ) q Γ = .pure (.bk Γ) := rfl
@[simp] theorem evS_cont  (q : Qc) (Γ : List Sl) : evS (Ts.cont ) q Γ = .pure (.ct Γ) := rfl
@[simp] theorem evS_drop (a : _) (q : Qc) (Γ : List Sl) : evS (Ts.drop a) q Γ = (evE a q Γ).bind fun _ => .pure (.nx Γ) := rfl
@[simp] theorem evS_rais (cn : _) (f : _) (a : _) (q : Qc) (Γ : List Sl) : evS (Ts.rais cn f a) q Γ = if q.rai cn = true then (evE a q Γ).bind fun d => .rais cn [(f, d)] else .stuck := rfl
@[simp] theorem evS_parO (i : _) (j : _) (b : _) (q : Qc) (Γ : List Sl) : evS (Ts.parO i j b) q Γ = (evE b q Γ).bind fun e => .pure (.nx ((Γ.set i (.ol false [])).set j (.da e))) := rfl
@[simp] theorem evS_par (i : _) (j : _) (a : _) (b : _) (q : Qc) (Γ : List Sl) : evS (Ts.par i j a b) q Γ = (evE a q Γ).bind fun d => (evE b q Γ).bind fun e => .pure (.nx ((Γ.set i (.da d)).set j (.da e))) := rfl

section
variable {α β : Type} {p : Prop} [Decidable p]
@[simp] theorem Ev.bind_pure (f : Ev α) : (f.bind fun a => Ev.pure a) = f := by
  funext l
  unfold Ev.bind
  cases f l with
  | none => rfl
  | some x => obtain ⟨r, l'⟩ := x; cases r <;> rfl
@[simp] theorem Ev.bind_pure' (f : Ev α) : f.bind Ev.pure = f := Ev.bind_pure f
@[simp] theorem Ev.ite_bind (f g : Ev α) (h : α → Ev β) : (if p then f else g).bind h = if p then f.bind h else g.bind h := by split <;> rfl
@[simp] theorem Ev.ite_calm (f g : Ev α) : (if p then f else g).calm = if p then f.calm else g.calm := by split <;> rfl
theorem Ev.ite_pure (a b : α) : (if p then Ev.pure a else Ev.pure b) = Ev.pure (if p then a else b) := by split <;> rfl
@[simp] theorem Ev.calm_bind_pure (f : Ev α) (h : α → β) : (f.bind fun a => Ev.pure (h a)).calm = f.calm.bind fun a => Ev.pure (h a) := by
  funext l
  simp only [Ev.calm, Ev.bind]
  cases f l with
  | none => rfl
  | some x => obtain ⟨r, l'⟩ := x; cases r <;> rfl
@[simp] theorem Ev.calm_calm (f : Ev α) : f.calm.calm = f.calm := by
  funext l
  simp only [Ev.calm]
  cases f l with
  | none => rfl
  | some x => obtain ⟨r, l'⟩ := x; cases r <;> rfl
@[simp] theorem Ev.calm_rais (cn : Str) (es : List (Str × Dt)) : (Ev.rais cn es : Ev α).calm = Ev.stuck := rfl
@[simp] theorem Ev.ite_catch (f g : Ev α) (h : α → Ev β) (k : Str → List (Str × Dt) → Ev β) : (if p then f else g).catch_ h k = if p then f.catch_ h k else g.catch_ h k := by split <;> rfl
theorem Ev.calm_bind (f : Ev α) (h : α → Ev β) : (f.bind h).calm = f.calm.bind fun a => (h a).calm := by
  funext l
  simp only [Ev.calm, Ev.bind]
  cases f l with
  | none => rfl
  | some x => obtain ⟨r, l'⟩ := x; cases r <;> rfl
end
@[simp] theorem qOf_f (f : Nat → List Dt → Ev Dt) (t : Tab) (b : Bool) : (qOf f t b).f = f := rfl
@[simp] theorem seq_nx (q : Qc) (b : Ts) (Γ : List Sl) : (match Fl.nx Γ with | .nx Γ' => evS b q Γ' | r => Ev.pure r) = evS b q Γ := rfl
@[simp] theorem retE_nx (Γ : List Sl) : retE (.nx Γ) = .pure .non := rfl
@[simp] theorem retE_rt (d : Dt) : retE (.rt d) = .pure d := rfl
@[simp] theorem forEnd_nx (Γ Γ' : List Sl) : forEnd Γ (.nx Γ') = .pure (.nx (back Γ Γ')) := rfl
@[simp] theorem forEnd_bk (Γ Γ' : List Sl) : forEnd Γ (.bk Γ') = .pure (.nx (back Γ Γ')) := rfl
@[simp] theorem forEnd_rt (Γ : List Sl) (d : Dt) : forEnd Γ (.rt d) = .pure (.rt d) := rfl
@[simp] theorem outS_da (d : Dt) : outS (.da d) = .da d := rfl
@[simp] theorem outS_un : outS .un = .un := rfl
@[simp] theorem outS_ol (b : Bool) (ds : List Dt) : outS (.ol b ds) = .ol true ds := rfl
@[simp] theorem hideS_da (d : Dt) : hideS (.da d) = .da d := rfl
@[simp] theorem hideS_un : hideS .un = .un := rfl
@[simp] theorem hideS_ol (b : Bool) (ds : List Dt) : hideS (.ol b ds) = .un := rfl
@[simp] theorem inS_da (s : Sl) (d : Dt) : inS s (.da d) = .da d := by cases s <;> rfl
@[simp] theorem inS_un (s : Sl) : inS s .un = .un := by cases s <;> rfl
@[simp] theorem inS_ol (b : Bool) (es ds : List Dt) : inS (.ol b es) (.ol true ds) = .ol b ds := rfl
@[simp] theorem back_cons (s t : Sl) (Γ Γ' : List Sl) : back (s :: Γ) (t :: Γ') = inS s t :: back Γ Γ' := rfl
@[simp] theorem back_nil (Γ : List Sl) : back [] Γ = [] := rfl
@[simp] theorem back_nil2 (Γ : List Sl) : back Γ [] = [] := by cases Γ <;> rfl
@[simp] theorem szOk_iff (n : Nat) : (szOk n = true) = (n ≤ 16777216) := by
  unfold szOk
  exact propext ⟨Nat.le_of_ble_eq_true, Nat.ble_eq_true_of_le⟩
@[simp] theorem szLt_iff (n : Nat) : (szLt n = true) = (n < 16777216) := by
  unfold szLt
  exact propext ⟨fun h => Nat.le_of_ble_eq_true h, fun h => Nat.ble_eq_true_of_le h⟩
@[simp] theorem truD_bl (b : Bool) : truD (.bl b) = some b := rfl
@[simp] theorem truD_non : truD .non = some false := rfl
@[simp] theorem truD_int (i : Int) : truD (.int i) = some (i != 0) := rfl
@[simp] theorem truD_lst (ds : List Dt) : truD (.lst ds) = some (!ds.isEmpty) := rfl
@[simp] theorem truD_tup (ds : List Dt) : truD (.tup ds) = some (!ds.isEmpty) := rfl
@[simp] theorem seqD_lst (ds : List Dt) : seqD (.lst ds) = some ds := rfl
@[simp] theorem seqD_tup (ds : List Dt) : seqD (.tup ds) = some ds := rfl
@[simp] theorem seqD_str (z : Str) : seqD (.str z) = some (signs z) := rfl
@[simp] theorem revE_lst (ds : List Dt) : revE (.lst ds) = some (.lst ds.reverse) := rfl
@[simp] theorem revE_tup (ds : List Dt) : revE (.tup ds) = some (.tup ds.reverse) := rfl
@[simp] theorem evG_name (i : Nat) (d : Dt) (Γ : List Sl) : evG (.name i) d Γ = some (Γ.set i (.da d)) := rfl
@[simp] theorem js_name (i : Nat) : (Tg.name i).js = [i] := rfl
@[simp] theorem js_tup (is : List Nat) : (Tg.tup is).js = is := rfl
section
variable (i j : Int) (x y : Str) (d e : Dt) (xs ys : List Dt)
@[simp] theorem o_addI : O2.ev .add (.int i) (.int j) = some (.int (i + j)) := rfl
@[simp] theorem o_addS : O2.ev .add (.str x) (.str y) = if szOk (x.length + y.length) then some (.str (x ++ y)) else none := rfl
@[simp] theorem o_addL : O2.ev .add (.lst xs) (.lst ys) = if szOk (xs.length + ys.length) then some (.lst (xs ++ ys)) else none := rfl
@[simp] theorem o_addT : O2.ev .add (.tup xs) (.tup ys) = if szOk (xs.length + ys.length) then some (.tup (xs ++ ys)) else none := rfl
@[simp] theorem o_subI : O2.ev .sub (.int i) (.int j) = some (.int (i - j)) := rfl
theorem o_mulI : O2.ev .mul (.int i) (.int j) = if cmulB i j then some (.int (i * j)) else none := rfl
theorem o_mulL (m : Int) : O2.ev .mul (.lst xs) (.int m) = if decide (-(2 ^ 63) ≤ m) && decide (m < 2 ^ 63) && szOk (xs.length * m.toNat) then some (.lst (List.replicate m.toNat xs).flatten) else none := rfl
theorem o_mulT (m : Int) : O2.ev .mul (.tup xs) (.int m) = if decide (1 ≤ m) && decide (m ≤ 1000) && (!xs.isEmpty && decide (xs.length ≤ 1000)) then some (.tup (List.replicate m.toNat xs).flatten) else none := rfl
@[simp] theorem o_modI : O2.ev .mod (.int i) (.int j) = if 0 < j then some (.int (i % j)) else none := rfl
@[simp] theorem o_divI : O2.ev .div (.int i) (.int j) = if 0 < j ∧ j < 1073741824 then some (.int (i / j)) else none := rfl
theorem o_powI : O2.ev .pow (.int i) (.int j) = if 0 ≤ j ∧ j ≤ 1000000 ∧ i.natAbs < 2 ^ 64 then some (.int (i ^ j.toNat)) else none := rfl
@[simp] theorem o_ltI : O2.ev .lt (.int i) (.int j) = some (.bl (decide (i < j))) := rfl
@[simp] theorem o_ltS : O2.ev .lt (.str x) (.str y) = some (.bl (decide (x.cps.toList < y.cps.toList))) := rfl
theorem o_ltT : O2.ev .lt (.tup xs) (.tup ys) = (intsE xs).bind fun xs => (intsE ys).map fun ys => .bl (HT.lexLt xs ys) := rfl
@[simp] theorem o_leI : O2.ev .le (.int i) (.int j) = some (.bl (decide (i ≤ j))) := rfl
@[simp] theorem o_gtI : O2.ev .gt (.int i) (.int j) = some (.bl (decide (j < i))) := rfl
@[simp] theorem o_geI : O2.ev .ge (.int i) (.int j) = some (.bl (decide (j ≤ i))) := rfl
@[simp] theorem o_eqX : O2.ev .eq d e = (eqE d e).map Dt.bl := rfl
@[simp] theorem o_neX : O2.ev .ne d e = (eqE d e).map fun b => .bl (!b) := rfl
@[simp] theorem o_inX : O2.ev .in_ d e = (inE d e).map Dt.bl := rfl
@[simp] theorem o_ninX : O2.ev .nin d e = (inE d e).map fun b => .bl (!b) := rfl
@[simp] theorem o_isX : O2.ev .is_ d .non = some (.bl (match d with | .non => true | _ => false)) := by cases d <;> rfl
@[simp] theorem o_isnX : O2.ev .isn d .non = some (.bl (match d with | .non => false | _ => true)) := by cases d <;> rfl
@[simp] theorem o_ixL : O2.ev .ix (.lst xs) (.int i) = atI xs i := rfl
@[simp] theorem o_ixT : O2.ev .ix (.tup xs) (.int i) = atI xs i := rfl
@[simp] theorem o_ixS : O2.ev .ix (.str x) (.int i) = if szOk x.length then (atI x.cps.toList i).map fun s => .str ⟨#[s]⟩ else none := rfl
@[simp] theorem b_lenL : Bl.ev .len [.lst xs] = some (.int xs.length) := rfl
@[simp] theorem b_lenT : Bl.ev .len [.tup xs] = some (.int xs.length) := rfl
@[simp] theorem b_lenS : Bl.ev .len [.str x] = if szOk x.length then some (.int x.length) else none := rfl
@[simp] theorem b_lenD (ks : List Key) : Bl.ev .len [.dic ks xs] = some (.int ks.length) := rfl
@[simp] theorem b_intI : Bl.ev .int [.int i] = some (.int i) := rfl
@[simp] theorem b_intB (b : Bool) : Bl.ev .int [.bl b] = some (.int (if b then 1 else 0)) := rfl
@[simp] theorem b_intS : Bl.ev .int [.str x] = if x.length ≤ 640 then (PySem.intText? x).map Dt.int else none := rfl
@[simp] theorem b_listL : Bl.ev .list [.lst xs] = some (.lst xs) := rfl
@[simp] theorem b_listT : Bl.ev .list [.tup xs] = some (.lst xs) := rfl
@[simp] theorem b_tupleL : Bl.ev .tuple [.lst xs] = some (.tup xs) := rfl
@[simp] theorem b_tupleT : Bl.ev .tuple [.tup xs] = some (.tup xs) := rfl
@[simp] theorem b_strI : Bl.ev .str [.int i] = if i.natAbs.log2 < 1920 then some (.str (toString i)) else none := rfl
@[simp] theorem b_strS : Bl.ev .str [.str x] = some (.str x) := rfl
@[simp] theorem b_allL : Bl.ev .all [.lst xs] = (blsE xs).map fun bs => .bl (bs.all id) := rfl
theorem b_reprD : Bl.ev .repr [d] = if d.ro 20 && decide (d.rw ≤ 16777216) then some (.str d.sh) else none := rfl
end
theorem bind_at0 {α β : Type} {f : Ev α} {g : α → Ev β} {l l' : List Nat} {a : α} (h : f l = some (.ok a, l')) : f.bind g l = g a l' := by
  unfold Ev.bind
  rw [h]
/-! a statement first -/
section
variable {a b : Ts} {q : Qc} {Γ Γ' : List Sl} {cn : Str} {es : List (Str × Dt)} {d : Dt}
theorem seq_rais (h : evS a q Γ = .rais cn es) : evS (.seq a b) q Γ = .rais cn es := by rw [evS_seq, h]; rfl
theorem seq_go (h : evS a q Γ = .pure (.nx Γ')) : evS (.seq a b) q Γ = evS b q Γ' := by rw [evS_seq, h]; rfl
theorem seq_ret (h : evS a q Γ = .pure (.rt d)) : evS (.seq a b) q Γ = .pure (.rt d) := by rw [evS_seq, h]; rfl
theorem run_rais {ar n : Nat} {f : Nat → List Dt → Ev Dt} {t : Tab} {ds : List Dt} (hl : ds.length = ar) (h : evS a (qOf f t false) (gamN n ds) = .rais cn es) : runF ar n false false a f t ds = .rais cn es := by
  rw [run_eq ⟨hl, fun z => by cases z⟩, h]; rfl
theorem run_ret {ar n : Nat} {nox : Bool} {f : Nat → List Dt → Ev Dt} {t : Tab} {ds : List Dt} (hl : ds.length = ar) (h : evS a (qOf f t false) (gamN n ds) = .pure (.rt d)) : runF ar n nox false a f t ds = .pure d := by
  rw [run_eq ⟨hl, fun z => by cases z⟩, h]; cases nox <;> rfl
theorem seq_at {l l' : List Nat} (h : evS a q Γ l = some (.ok (.nx Γ'), l')) : evS (.seq a b) q Γ l = evS b q Γ' l' := by rw [evS_seq, bind_at0 h]
theorem run_at {ar n : Nat} {f : Nat → List Dt → Ev Dt} {t : Tab} {ds : List Dt} {l l' : List Nat} (hl : ds.length = ar) (h : evS a (qOf f t false) (gamN n ds) l = some (.ok (.rt d), l')) : runF ar n true false a f t ds l = some (.ok d, l') := by
  rw [run_eq ⟨hl, fun z => by cases z⟩]
  show Ev.calm _ l = _
  unfold Ev.calm
  rw [bind_at0 h]
  rfl
theorem run_atm {ar n : Nat} {f : Nat → List Dt → Ev Dt} {t : Tab} {ds : List Dt} {l l' : List Nat} (hl : ds.length = ar) (hn : Dt.nes ds = true) (h : evS a (qOf f t true) (gamN n ds) l = some (.ok (.rt d), l')) : runF ar n true true a f t ds l = some (.ok d, l') := by
  rw [run_eq ⟨hl, fun _ => hn⟩]
  show Ev.calm _ l = _
  unfold Ev.calm
  rw [bind_at0 h]
  rfl
end
/-! comprehensions and loops without draws -/
theorem evLc_map {b : Dt → Ev (Option Dt)} {f : Dt → Dt} : ∀ {ds acc : List Dt}, (∀ d ∈ ds, b d = .pure (some (f d))) → evLc b ds acc = .pure (acc ++ ds.map f)
  | [], acc, _ => by simp [evLc]
  | d :: ds, acc, h => by
    show (b d).bind _ = _
    rw [h d (by simp)]
    show evLc b ds (acc ++ [f d]) = _
    rw [evLc_map fun e he => h e (by simp [he])]
    simp
theorem evLc_maps {α : Type} {b : Dt → Ev (Option Dt)} {u f : α → Dt} {xs : List α} (h : ∀ x ∈ xs, b (u x) = .pure (some (f x))) : evLc b (xs.map u) [] = .pure (xs.map f) := by
  have key : ∀ (xs : List α) (acc : List Dt), (∀ x ∈ xs, b (u x) = .pure (some (f x))) → evLc b (xs.map u) acc = .pure (acc ++ xs.map f) := by
    intro xs
    induction xs with
    | nil => intro acc _; simp [evLc]
    | cons x xs ih =>
      intro acc h
      show (b (u x)).bind _ = _
      rw [h x (by simp)]
      show evLc b (xs.map u) (acc ++ [f x]) = _
      rw [ih _ fun e he => h e (by simp [he])]
      simp
  simpa using key xs [] h
theorem evLc_fil {α : Type} {b : Dt → Ev (Option Dt)} {u f : α → Dt} {p : α → Bool} {xs : List α} (h : ∀ x ∈ xs, b (u x) = .pure (if p x = true then some (f x) else none)) : evLc b (xs.map u) [] = .pure ((xs.filter p).map f) := by
  have key : ∀ (xs : List α) (acc : List Dt), (∀ x ∈ xs, b (u x) = .pure (if p x = true then some (f x) else none)) → evLc b (xs.map u) acc = .pure (acc ++ (xs.filter p).map f) := by
    intro xs
    induction xs with
    | nil => intro acc _; simp [evLc]
    | cons x xs ih =>
      intro acc h
      show (b (u x)).bind _ = _
      rw [h x (by simp)]
      show evLc b (xs.map u) (acc ++ (if p x = true then some (f x) else none).toList) = _
      rw [ih _ fun e he => h e (by simp [he])]
      cases hp : p x <;> simp [hp]
  simpa using key xs [] h
/-- a turn that draws -/
theorem evLc_wp {b : Dt → Ev (Option Dt)} {R : Dt → Prop} (q : Nat) : ∀ (ds acc : List Dt) (l : List Nat), ds.length * q ≤ l.length → (∀ e ∈ acc, R e) → (∀ d ∈ ds, ∀ l : List Nat, q ≤ l.length → ∃ e l', b d l = some (.ok (some e), l') ∧ R e ∧ l.length ≤ l'.length + q) →
    ∃ es l', evLc b ds acc l = some (.ok es, l') ∧ (∀ e ∈ es, R e) ∧ es.length = acc.length + ds.length ∧ l.length ≤ l'.length + ds.length * q
  | [], acc, l, _, ha, _ => ⟨acc, l, rfl, ha, by simp, by simp⟩
  | d :: ds, acc, l, hl, ha, h => by
    rw [List.length_cons, Nat.add_mul, Nat.one_mul] at hl
    obtain ⟨e, l1, h1, h2, h3⟩ := h d (by simp) l (by omega)
    obtain ⟨es, l2, h4, h5, h6, h7⟩ := evLc_wp q ds (acc ++ [e]) l1 (by omega) (fun x hx => by
      rcases List.mem_append.mp hx with hx | hx
      · exact ha x hx
      · rw [List.mem_singleton.mp hx]; exact h2) fun d' hd => h d' (by simp [hd])
    refine ⟨es, l2, ?_, h5, by rw [h6]; simp; omega, by rw [List.length_cons, Nat.add_mul, Nat.one_mul]; omega⟩
    show (b d).bind _ l = _
    unfold Ev.bind
    rw [h1]
    exact h4
theorem bind_at {α β : Type} {f : Ev α} {g : α → Ev β} {l l' : List Nat} {a : α} (h : f l = some (.ok a, l')) : f.bind g l = g a l' := by
  unfold Ev.bind
  rw [h]
/-- a loop: I between the turns, q draws a turn -/
theorem evFor_wp {b : Dt → List Sl → Ev Fl} {I : List Sl → Prop} (q : Nat) : ∀ (ds : List Dt) (Γ : List Sl) (l : List Nat), ds.length * q ≤ l.length → I Γ → (∀ d ∈ ds, ∀ Γ (l : List Nat), I Γ → q ≤ l.length → ∃ Γ' l', b d Γ l = some (.ok (.nx Γ'), l') ∧ I Γ' ∧ l.length ≤ l'.length + q) →
    ∃ Γ' l', evFor b ds Γ l = some (.ok (.nx Γ'), l') ∧ I Γ' ∧ l.length ≤ l'.length + ds.length * q
  | [], Γ, l, _, h, _ => ⟨Γ, l, rfl, h, by simp⟩
  | d :: ds, Γ, l, hl, h, ht => by
    rw [List.length_cons, Nat.add_mul, Nat.one_mul] at hl
    obtain ⟨Γ1, l1, h1, h2, h3⟩ := ht d (by simp) Γ l h (by omega)
    obtain ⟨Γ2, l2, h4, h5, h6⟩ := evFor_wp q ds Γ1 l1 (by omega) h2 fun d' hd => ht d' (by simp [hd])
    refine ⟨Γ2, l2, ?_, h5, by rw [List.length_cons, Nat.add_mul, Nat.one_mul]; omega⟩
    show (b d Γ).bind _ l = _
    rw [bind_at h1]
    exact h4
/-- a loop without draws that folds a state -/
theorem evFor_fold {σ : Type} {b : Dt → List Sl → Ev Fl} {G : σ → List Sl} {f : σ → Dt → σ} : ∀ (ds : List Dt) (s : σ), (∀ s, ∀ d ∈ ds, b d (G s) = .pure (.nx (G (f s d)))) → evFor b ds (G s) = .pure (.nx (G (ds.foldl f s)))
  | [], s, _ => rfl
  | d :: ds, s, h => by
    show (b d (G s)).bind _ = _
    rw [h s d (by simp)]
    show evFor b ds (G (f s d)) = _
    exact evFor_fold ds (f s d) fun s d' hd => h s d' (by simp [hd])
theorem evFor_foldP {σ : Type} {b : Dt → List Sl → Ev Fl} {G : σ → List Sl} {f : σ → Dt → σ} {P : Nat → σ → Prop} : ∀ (ds : List Dt) (s : σ), P ds.length s → (∀ k s d, d ∈ ds → P (k + 1) s → b d (G s) = .pure (.nx (G (f s d))) ∧ P k (f s d)) → evFor b ds (G s) = .pure (.nx (G (ds.foldl f s)))
  | [], s, _, _ => rfl
  | d :: ds, s, h0, h => by
    obtain ⟨h1, h2⟩ := h ds.length s d (by simp) h0
    show (b d (G s)).bind _ = _
    rw [h1]
    show evFor b ds (G (f s d)) = _
    exact evFor_foldP ds (f s d) h2 fun k s d' hd => h k s d' (by simp [hd])
theorem cm2 (j : Int) : cmulB 2 j = true := by simp [cmulB]
theorem rng_ev {q : Qc} {Γ : List Sl} {as : Ta} {w : Nat} (h : evA as q Γ = .pure [.int w]) (h2 : w ≤ 16777216) : evI (.rng1 as) q Γ = .pure (upTo 0 w) := by
  rw [evI_rng1, h, Ev.pure_bind]
  exact if_pos (rOk_of (by omega) (by omega))
/-- a draw -/
theorem draw_wp {m : Int} {l : List Nat} (h1 : 0 < m) (h2 : m < 1073741824) (hl : 1 ≤ l.length) : ∃ i l', drawF [.pen, .int m] l = some (.ok (.int i), l') ∧ 0 ≤ i ∧ i < m ∧ l.length = l'.length + 1 := by
  cases l with
  | nil => simp at hl
  | cons x l =>
    refine ⟨(x : Int) % m, l, ?_, Int.emod_nonneg _ (by omega), Int.emod_lt_of_pos _ h1, rfl⟩
    show (if 0 < m ∧ m < 1073741824 then _ else none) = _
    rw [if_pos ⟨h1, h2⟩]
theorem draw_at {m : Int} {l : List Nat} (h1 : 0 < m) (h2 : m < 1073741824) (hl : 1 ≤ l.length) : ∃ i l', (drawF [.pen, .int m]).calm l = some (.ok (.int i), l') ∧ 0 ≤ i ∧ i < m ∧ l.length = l'.length + 1 := by
  obtain ⟨i, l', e, h⟩ := draw_wp h1 h2 hl
  exact ⟨i, l', by unfold Ev.calm; rw [e], h⟩
theorem calm_at {α : Type} {f : Ev α} {l l' : List Nat} {a : α} (h : f l = some (.ok a, l')) : f.calm l = some (.ok a, l') := by unfold Ev.calm; rw [h]
theorem pure_at {α : Type} (a : α) (l : List Nat) : Ev.pure a l = some (.ok a, l) := rfl
theorem eqE_self {d : Dt} (h : d.pl 20 = true) : eqE d d = some true := by
  unfold eqE
  split
  · rename_i hs
    cases d <;> first | rfl | (simp [sameD]; done) | (simp [scalD] at hs)
  · rw [if_pos (by rw [h]; rfl), eqv_self 20 d h]
end Pb
namespace Pb.K03
open PySem PySem.Spec PyProof.Rows L2
def tabL : Tab := ⟨[("InvalidBits", "InvalidBits", true)], [("InvalidBits", "value")], [("InvalidBits", "PathError")], ["InvalidBits"]⟩
def tm__law_pick : Ts := (.ret (.op .ix (.var 1) (.call false 0 (.cons (.var 0) (.cons (.blt .len (.cons (.var 1) .nil)) .nil)))))
def F__law_pick : Nat → List Dt → Ev Dt := fun id => match id with | 0 => drawF | _ => fun _ => .stuck
def e__law_pick : List Dt → Ev Dt := runF 2 2 true false tm__law_pick F__law_pick tabL
def tm__law_row : Ts := (.seq (.asg 2 (.call false 0 (.cons (.var 0) (.cons (.int 4) .nil))))
    (.ret (.blt .tuple (.cons (.lc (.rng1 (.cons (.var 1) .nil)) (.name 3) .yes (.op .ix (.lst (.cons (.int 0) (.cons (.int 1) (.cons (.call false 0 (.cons (.var 0) (.cons (.int 2) .nil))) (.cons (.call false 0 (.cons (.var 0) (.cons (.int 2) .nil))) .nil))))) (.var 2))) .nil))))
def F__law_row : Nat → List Dt → Ev Dt := fun id => match id with | 0 => drawF | _ => fun _ => .stuck
def e__law_row : List Dt → Ev Dt := runF 2 4 true false tm__law_row F__law_row tabL
def tm__law_sum : Ts := (.seq (.asgG [1, 2] (.tup (.cons (.int 0) (.cons (.int 1) .nil))))
    (.seq (.for_ (.sq (.rev (.var 0))) (.name 3) (.par 1 2 (.op .add (.var 1) (.op .mul (.var 2) (.var 3))) (.op .mul (.int 2) (.var 2))))
    (.ret (.var 1))))
def F__law_sum : Nat → List Dt → Ev Dt := fun id => match id with  | _ => fun _ => .stuck
def e__law_sum : List Dt → Ev Dt := runF 1 4 true false tm__law_sum F__law_sum tabL
def tm_is_integer : Ts := (.ret (.and_ (.isi .int (.var 0)) (.not_ (.isi .bool (.var 0)))))
def F_is_integer : Nat → List Dt → Ev Dt := fun id => match id with  | _ => fun _ => .stuck
def e_is_integer : List Dt → Ev Dt := runF 1 1 true false tm_is_integer F_is_integer tabL
def tm_is_between : Ts := (.ret (.and_ (.call false 14 (.cons (.var 0) .nil)) (.chain .le .le (.var 1) (.var 0) (.var 2))))
def F_is_between : Nat → List Dt → Ev Dt := fun id => match id with | 14 => e_is_integer | _ => fun _ => .stuck
def e_is_between : List Dt → Ev Dt := runF 3 3 true false tm_is_between F_is_between tabL
def tm_is_bit : Ts := (.ret (.call false 15 (.cons (.var 0) (.cons (.int 0) (.cons (.int 1) .nil)))))
def F_is_bit : Nat → List Dt → Ev Dt := fun id => match id with | 15 => e_is_between | _ => fun _ => .stuck
def e_is_bit : List Dt → Ev Dt := runF 1 1 true false tm_is_bit F_is_bit tabL
def tm_is_bits : Ts := (.ret (.and_ (.isiTL (.var 0)) (.blt .all (.cons (.lc (.sq (.var 0)) (.name 1) .yes (.call false 16 (.cons (.var 1) .nil))) .nil))))
def F_is_bits : Nat → List Dt → Ev Dt := fun id => match id with | 16 => e_is_bit | _ => fun _ => .stuck
def e_is_bits : List Dt → Ev Dt := runF 1 2 true false tm_is_bits F_is_bits tabL
def tm_number_of : Ts := (.seq (.ifS (.or_ (.not_ (.tr (.call false 17 (.cons (.var 0) .nil)))) (.not_ (.test (.chain .le .le (.int 1) (.blt .len (.cons (.var 0) .nil)) (.int 64))))) (.rais "InvalidBits" "value" (.var 0)) .next)
    (.seq (.asg 1 (.int 0))
    (.seq (.for_ (.sq (.var 0)) (.name 2) (.asg 1 (.op .add (.op .mul (.int 2) (.var 1)) (.var 2))))
    (.ret (.var 1)))))
def F_number_of : Nat → List Dt → Ev Dt := fun id => match id with | 17 => e_is_bits | _ => fun _ => .stuck
def e_number_of : List Dt → Ev Dt := runF 1 3 false false tm_number_of F_number_of tabL
def tm_bits_of : Ts := (.seq (.ifS (.not_ (.tr (.call false 15 (.cons (.var 1) (.cons (.int 1) (.cons (.int 64) .nil)))))) (.rais "InvalidBits" "value" (.var 1)) .next)
    (.seq (.ifS (.or_ (.not_ (.tr (.call false 14 (.cons (.var 0) .nil)))) (.test (.op .lt (.var 0) (.int 0)))) (.rais "InvalidBits" "value" (.var 0)) .next)
    (.seq (.parO 2 3 (.var 0))
    (.seq (.for_ (.rng1 (.cons (.var 1) .nil)) (.name 4) (.seq (.app 2 (.op .mod (.var 3) (.int 2)))
    (.asg 3 (.op .div (.var 3) (.int 2)))))
    (.seq (.ifS (.test (.op .gt (.var 3) (.int 0))) (.rais "InvalidBits" "value" (.var 0)) .next)
    (.rel 2 (.ret (.blt .tuple (.cons (.rev (.var 2)) .nil)))))))))
def F_bits_of : Nat → List Dt → Ev Dt := fun id => match id with | 15 => e_is_between | 14 => e_is_integer | _ => fun _ => .stuck
def e_bits_of : List Dt → Ev Dt := runF 2 5 false false tm_bits_of F_bits_of tabL
def tm__law_heard : Ts := (.ret (.ifx (.tr (.isH "InvalidBits" (.var 1))) (.tup (.cons (.str "bits") (.cons (.blt .repr (.cons (.hvf "value" (.var 1)) .nil)) .nil))) (.str "odd")))
def tm__law_refused_right : Ts := (.seq (.asg 3 (.call false 1009 (.cons (.var 0) (.cons (.lst (.cons (.int 0) (.cons (.int 65) (.cons (.neg (.int 1)) (.cons (.bl true) (.cons .non (.cons (.str "8") (.cons (.tup (.cons (.int 8) .nil)) (.cons (.op .pow (.int 10) (.int 59)) (.cons (.lst (.cons (.int 1) .nil)) (.cons .dnew .nil))))))))))) .nil))))
    (.seq (.asg 4 (.call false 1009 (.cons (.var 0) (.cons (.lst (.cons (.var 2) (.cons (.neg (.int 1)) (.cons (.bl true) (.cons (.bl false) (.cons .non (.cons (.str "1") (.cons (.tup (.cons (.int 1) .nil)) (.cons (.op .pow (.int 10) (.int 59)) (.cons (.neg (.op .pow (.int 10) (.int 59))) (.cons (.lst (.cons (.int 0) .nil)) .nil))))))))))) .nil))))
    (.seq (.ownL 5 (.cons (.hear "PathError" 2 1 3 tm__law_heard (.call true 20 (.cons (.var 4) (.cons (.var 3) .nil)))) .nil))
    (.seq (.app 5 (.hear "PathError" 2 1 3 tm__law_heard (.call true 20 (.cons (.var 4) (.cons (.var 1) .nil)))))
    (.seq (.app 5 (.hear "PathError" 2 1 3 tm__law_heard (.callP true 20 0 2 [1, 0] .nil (.cons (.var 1) (.cons (.var 4) .nil)))))
    (.seq (.rel 5 (.ifS (.test (.op .ne (.var 5) (.lst (.cons (.tup (.cons (.str "bits") (.cons (.blt .repr (.cons (.var 3) .nil)) .nil))) (.cons (.tup (.cons (.str "bits") (.cons (.blt .repr (.cons (.var 4) .nil)) .nil))) (.cons (.tup (.cons (.str "bits") (.cons (.blt .repr (.cons (.var 4) .nil)) .nil))) .nil)))))) (.ret (.bl false)) .next))
    (.seq (.asg 6 (.lst (.cons (.tup .nil) (.cons (.lst .nil) (.cons .non (.cons (.int 0) (.cons (.str "01") (.cons (.tup (.cons (.int 0) (.cons (.bl true) .nil))) (.cons (.lst (.cons (.int 2) .nil)) (.cons (.op .mul (.tup (.cons (.int 1) .nil)) (.int 65)) (.cons .dnew (.cons (.tup (.cons (.tup (.cons (.int 0) .nil)) .nil)) (.cons (.tup (.cons (.int 0) (.cons .non .nil))) (.cons (.disp (.cons (.int 0) (.int 1) .nil)) .nil))))))))))))))
    (.seq (.asg 7 (.call false 1009 (.cons (.var 0) (.cons (.var 6) .nil))))
    (.ret (.op .eq (.hear "PathError" 2 1 3 tm__law_heard (.call true 21 (.cons (.var 7) .nil))) (.tup (.cons (.str "bits") (.cons (.blt .repr (.cons (.var 7) .nil)) .nil)))))))))))))
def F__law_refused_right : Nat → List Dt → Ev Dt := fun id => match id with | 1009 => e__law_pick | 20 => e_bits_of | 21 => e_number_of | _ => fun _ => .stuck
def e__law_refused_right : List Dt → Ev Dt := runF 3 8 true true tm__law_refused_right F__law_refused_right tabL
def tm_law : Ts := (.seq (.for_ (.rng1 (.cons (.int 8) .nil)) (.name 2) (.seq (.asg 3 (.call false 1009 (.cons (.var 1) (.cons (.lst (.cons (.int 1) (.cons (.int 2) (.cons (.int 3) (.cons (.int 64) (.cons (.op .add (.int 1) (.call false 0 (.cons (.var 1) (.cons (.int 64) .nil)))) .nil)))))) .nil))))
    (.seq (.par 4 5 (.call false 1010 (.cons (.var 1) (.cons (.var 3) .nil))) (.call false 1010 (.cons (.var 1) (.cons (.var 3) .nil))))
    (.seq (.asg 6 (.lst (.cons (.call false 1011 (.cons (.var 4) .nil)) (.cons (.call false 1011 (.cons (.var 5) .nil)) .nil))))
    (.seq (.asg 7 (.lst (.cons (.call false 21 (.cons (.var 4) .nil)) (.cons (.call false 21 (.cons (.blt .list (.cons (.var 5) .nil)) .nil)) .nil))))
    (.seq (.ifS (.or_ (.test (.op .ne (.blt .repr (.cons (.var 7) .nil)) (.blt .repr (.cons (.var 6) .nil)))) (.test (.op .ne (.blt .repr (.cons (.callK false 21 0 1 .nil (.cons (.var 5) .nil)) .nil)) (.blt .repr (.cons (.op .ix (.var 6) (.int 1)) .nil))))) (.ret (.bl false)) .next)
    (.seq (.asg 8 (.lst (.cons (.call false 20 (.cons (.op .ix (.var 6) (.int 0)) (.cons (.var 3) .nil))) (.cons (.callK false 20 0 2 .nil (.cons (.op .ix (.var 6) (.int 1)) (.cons (.var 3) .nil))) .nil))))
    (.seq (.ifS (.or_ (.test (.op .ne (.blt .repr (.cons (.var 8) .nil)) (.blt .repr (.cons (.lst (.cons (.var 4) (.cons (.var 5) .nil))) .nil)))) (.test (.op .ne (.op .lt (.var 4) (.var 5)) (.op .lt (.op .ix (.var 6) (.int 0)) (.op .ix (.var 6) (.int 1)))))) (.ret (.bl false)) .next)
    (.seq (.ifS (.and_ (.test (.op .lt (.var 3) (.int 64))) (.test (.op .ne (.call false 20 (.cons (.op .ix (.var 6) (.int 0)) (.cons (.op .add (.var 3) (.int 1)) .nil))) (.op .add (.tup (.cons (.int 0) .nil)) (.var 4))))) (.ret (.bl false)) .next)
    (.seq (.asg 9 (.op .add (.call false 1011 (.cons (.op .mul (.tup (.cons (.int 1) .nil)) (.var 3)) .nil)) (.int 1)))
    (.ifS (.or_ (.test (.op .ne (.call false 20 (.cons (.op .sub (.var 9) (.int 1)) (.cons (.var 3) .nil))) (.op .mul (.tup (.cons (.int 1) .nil)) (.var 3)))) (.not_ (.tr (.call false 1013 (.cons (.var 1) (.cons (.var 3) (.cons (.var 9) .nil))))))) (.ret (.bl false)) .next)))))))))))
    (.ret (.and_ (.op .eq (.call false 20 (.cons (.int 6) (.cons (.int 4) .nil))) (.tup (.cons (.int 0) (.cons (.int 1) (.cons (.int 1) (.cons (.int 0) .nil)))))) (.op .eq (.call false 21 (.cons (.lst (.cons (.int 0) (.cons (.int 0) (.cons (.int 0) .nil)))) .nil)) (.int 0)))))
def F_law : Nat → List Dt → Ev Dt := fun id => match id with | 1009 => e__law_pick | 0 => drawF | 1010 => e__law_row | 1011 => e__law_sum | 21 => e_number_of | 20 => e_bits_of | 1013 => e__law_refused_right | _ => fun _ => .stuck
abbrev mL : Nat := 8
/-! ### bits -/
def isInt : Dt → Bool
  | .int _ => true
  | _ => false
def isBit : Dt → Bool
  | .int i => decide (i = 0) || decide (i = 1)
  | _ => false
def bitI (b : Bool) : Int := if b then 1 else 0
def bitD (b : Bool) : Dt := .int (bitI b)
theorem ev_is_integer : ∀ d : Dt, d.tn ≠ none → e_is_integer [d] = .pure (.bl (isInt d)) := by
  intro d h
  cases d <;> first | rfl | exact absurd rfl h
def btw (d : Dt) (i j : Int) : Bool := match d with
  | .int k => decide (i ≤ k) && decide (k ≤ j)
  | _ => false
theorem ev_is_between (d : Dt) (i j : Int) (h : d.tn ≠ none) : e_is_between [d, .int i, .int j] = .pure (.bl (btw d i j)) := by
  have h1 := ev_is_integer d h
  simp [e_is_between, runF, tm_is_between, gamN, varE, F_is_between, h1]
  cases d <;> simp [isInt, btw]
  split
  · simp_all
  · rename_i h2
    rw [decide_eq_false (by omega)]
    rfl
theorem ev_is_bit (d : Dt) (h : d.tn ≠ none) : e_is_bit [d] = .pure (.bl (isBit d)) := by
  simp [e_is_bit, runF, tm_is_bit, gamN, varE, F_is_bit, ev_is_between d 0 1 h]
  cases d <;> simp [isBit, btw]
  rename_i k
  congr 2
  by_cases h0 : k = 0
  · subst h0; rfl
  · by_cases h1 : k = 1
    · subst h1; rfl
    · simp [h0, h1]; omega
theorem ev_is_bits (ds : List Dt) (d : Dt) (hd : d = .lst ds ∨ d = .tup ds) (hl : ds.length ≤ 16777216) (h : ∀ x ∈ ds, x.tn ≠ none) : e_is_bits [d] = .pure (.bl (ds.all isBit)) := by
  have e2 : blsE (ds.map fun x => Dt.bl (isBit x)) = some (ds.map isBit) := by
    rw [show (ds.map fun x => Dt.bl (isBit x)) = (ds.map isBit).map Dt.bl by rw [List.map_map]; rfl]
    exact blsE_map _
  rcases hd with rfl | rfl <;>
  · simp [e_is_bits, runF, tm_is_bits, gamN, varE, hl, Dt.tn, Tn.sub]
    rw [evLc_map (f := fun x => .bl (isBit x)) (fun x hx => by simp [wipeG, F_is_bits, ev_is_bit x (h x hx)])]
    simp [e2]
/-! ### numbers -/
def lowsum : List Bool → Int
  | [] => 0
  | b :: bs => bitI b + 2 * lowsum bs
def numb (bs : List Bool) : Int := lowsum bs.reverse
@[simp] theorem rai1 : tabL.raiF (Str.ofString "InvalidBits") = true := by decide +kernel
theorem lowsum_foldr (l : List Bool) : lowsum l = l.foldr (fun b a => bitI b + 2 * a) 0 := by
  induction l with
  | nil => rfl
  | cons b l ih => rw [lowsum, ih]; rfl
abbrev fN : Int × Sl → Dt → Int × Sl := fun s d => (2 * s.1 + (match d with | .int i => i | _ => 0), Sl.da d)
theorem numb_fold (bs : List Bool) : ((bs.map bitD).foldl fN (0, .un)).1 = numb bs := by
  have key : ∀ (bs : List Bool) (s : Int × Sl), ((bs.map bitD).foldl fN s).1 = bs.foldl (fun a b => bitI b + 2 * a) s.1 := by
    intro bs
    induction bs with
    | nil => intro s; rfl
    | cons b bs ih =>
      intro s
      rw [List.map_cons, List.foldl_cons, ih, List.foldl_cons]
      congr 1
      show 2 * s.1 + bitI b = _
      omega
  rw [key, numb, lowsum_foldr, List.foldr_reverse]
theorem ev_number_of (bs : List Bool) (d : Dt) (hd : d = .lst (bs.map bitD) ∨ d = .tup (bs.map bitD)) (h1 : 1 ≤ bs.length) (h2 : bs.length ≤ 64) : e_number_of [d] = .pure (.int (numb bs)) := by
  have hall : (bs.map bitD).all isBit = true := by
    rw [List.all_map, List.all_eq_true]
    intro b _
    cases b <;> rfl
  have hb := ev_is_bits (bs.map bitD) d hd (by rw [List.length_map]; omega) (fun x hx => by
    obtain ⟨b, _, rfl⟩ := List.mem_map.mp hx
    cases b <;> simp [bitD, Dt.tn])
  rw [hall] at hb
  have hlen : Bl.ev .len [d] = some (.int (bs.length : Nat)) := by rcases hd with rfl | rfl <;> simp
  have hseq : seqD d = some (bs.map bitD) := by rcases hd with rfl | rfl <;> rfl
  have hc1 : (1 : Int) ≤ (bs.length : Int) := by omega
  have hc2 : (bs.length : Int) ≤ 64 := by omega
  simp [e_number_of, runF, tm_number_of, gamN, varE, F_number_of, hb, hlen, hseq, hc1, hc2]
  rw [evFor_foldP (G := fun (s : Int × Sl) => [Sl.da d, .da (.int s.1), s.2]) (f := fN) (P := fun _ _ => True) (bs.map bitD) (0, .un) trivial (fun k s x hx _ => by
    obtain ⟨b, _, rfl⟩ := List.mem_map.mp hx
    simp [o_mulI, cm2, bitD])]
  simp [numb_fold]
/-! the law's own sum -/
theorem cmb (w : Int) (b : Bool) : cmulB w (bitI b) = true := by cases b <;> simp [cmulB, bitI]
abbrev fS : Int × Int × Sl → Dt → Int × Int × Sl := fun s d => (s.1 + s.2.1 * (match d with | .int i => i | _ => 0), 2 * s.2.1, Sl.da d)
theorem sum_fold : ∀ (cs : List Bool) (s : Int × Int × Sl), ((cs.map bitD).foldl fS s).1 = s.1 + s.2.1 * lowsum cs
  | [], s => by simp [lowsum]
  | b :: cs, s => by
    rw [List.map_cons, List.foldl_cons, sum_fold cs]
    show s.1 + s.2.1 * bitI b + 2 * s.2.1 * lowsum cs = s.1 + s.2.1 * (bitI b + 2 * lowsum cs)
    rw [Int.mul_add, Int.mul_comm 2 s.2.1, Int.mul_assoc]
    omega
theorem ev_sum (bs : List Bool) : e__law_sum [.tup (bs.map bitD)] = .pure (.int (numb bs)) := by
  simp [e__law_sum, runF, tm__law_sum, gamN, varE, evG, setAll]
  rw [← List.map_reverse, evFor_foldP (G := fun (s : Int × Int × Sl) => [Sl.da (.tup (bs.map bitD)), .da (.int s.1), .da (.int s.2.1), s.2.2]) (f := fS) (P := fun _ _ => True) (bs.reverse.map bitD) (0, 1, .un) trivial (fun k s x hx _ => by
    obtain ⟨b, _, rfl⟩ := List.mem_map.mp hx
    simp [o_mulI, cm2, bitD, cmb])]
  simp [-List.map_reverse, -List.foldl_reverse, sum_fold, numb]
/-! bits of a number -/
def lowsD : Nat → Int → List Dt
  | 0, _ => []
  | w + 1, n => .int (n % 2) :: lowsD w (n / 2)
def rst : Nat → Int → Int
  | 0, n => n
  | w + 1, n => rst w (n / 2)
theorem rst_div : ∀ (w : Nat) (n : Int), rst w n = n / 2 ^ w
  | 0, n => by simp [rst]
  | w + 1, n => by
    rw [rst, rst_div w, Int.pow_succ, Int.mul_comm, Int.ediv_ediv_of_nonneg (by decide)]
theorem lows_len : ∀ (w : Nat) (n : Int), (lowsD w n).length = w
  | 0, _ => rfl
  | w + 1, n => by rw [lowsD, List.length_cons, lows_len w]
theorem lows_sum : ∀ cs : List Bool, lowsD cs.length (lowsum cs) = cs.map bitD ∧ rst cs.length (lowsum cs) = 0
  | [] => ⟨rfl, rfl⟩
  | b :: cs => by
    obtain ⟨h1, h2⟩ := lows_sum cs
    have e1 : lowsum (b :: cs) % 2 = bitI b := by
      rw [lowsum]; cases b <;> simp [bitI] <;> omega
    have e2 : lowsum (b :: cs) / 2 = lowsum cs := by
      rw [lowsum]; cases b <;> simp [bitI] <;> omega
    rw [List.length_cons, lowsD, rst, e1, e2, h1, h2]
    exact ⟨rfl, rfl⟩
abbrev fB : List Dt × Int × Sl → Dt → List Dt × Int × Sl := fun s d => (s.1 ++ [.int (s.2.1 % 2)], s.2.1 / 2, Sl.da d)
theorem bits_fold : ∀ (ds : List Dt) (s : List Dt × Int × Sl), (ds.foldl fB s).1 = s.1 ++ lowsD ds.length s.2.1 ∧ (ds.foldl fB s).2.1 = rst ds.length s.2.1
  | [], s => by simp [lowsD, rst]
  | d :: ds, s => by
    obtain ⟨h1, h2⟩ := bits_fold ds (fB s d)
    rw [List.foldl_cons, h1, h2]
    simp [fB, lowsD, rst]
theorem bits_badW (n w : Dt) (hw : w.tn ≠ none) (h : btw w 1 64 = false) : e_bits_of [n, w] = .rais "InvalidBits" [("value", w)] := by
  refine run_rais rfl (seq_rais ?_)
  simp [gamN, varE, F_bits_of, ev_is_between w 1 64 hw, h]
theorem bits_notInt (n : Dt) (w : Nat) (hn : n.tn ≠ none) (h1 : 1 ≤ w) (h2 : w ≤ 64) (h : isInt n = false) : e_bits_of [n, .int w] = .rais "InvalidBits" [("value", n)] := by
  have hb : btw (.int w) 1 64 = true := by simp [btw]; omega
  refine run_rais rfl ((seq_go (Γ' := gamN 5 [n, .int w]) ?_).trans (seq_rais ?_))
  · simp [gamN, varE, F_bits_of, ev_is_between (.int w) 1 64 (by simp [Dt.tn]), hb]
  · simp [gamN, varE, F_bits_of, ev_is_integer n hn, h]
theorem bo_step (n w : Int) (k : Nat) (s : List Dt × Int × Sl) (x : Dt) (hk : s.1.length + (k + 1) ≤ 64) : (Ev.of (evG (.name 4) x [Sl.da (.int n), .da (.int w), .ol true s.1, .da (.int s.2.1), s.2.2])).bind (fun Γ2 => evS (.seq (.app 2 (.op .mod (.var 3) (.int 2))) (.asg 3 (.op .div (.var 3) (.int 2)))) (qOf F_bits_of tabL false) Γ2) = .pure (.nx [Sl.da (.int n), .da (.int w), .ol true (fB s x).1, .da (.int (fB s x).2.1), (fB s x).2.2]) := by
  have h3 : szLt s.1.length = true := by rw [szLt_iff]; omega
  have h4 : O2.ev .div (.int s.2.1) (.int 2) = some (.int (s.2.1 / 2)) := by rw [o_divI, if_pos ⟨by decide, by decide⟩]
  have h5 : O2.ev .mod (.int s.2.1) (.int 2) = some (.int (s.2.1 % 2)) := by rw [o_modI, if_pos (by decide)]
  simp only [evG_name, Ev.of_some, Ev.pure_bind, evS_seq, evS_app, evS_asg, evE_op, evE_var, evE_int, varE, List.set_cons_succ, List.set_cons_zero, List.getElem?_cons_succ, List.getElem?_cons_zero, h3, if_true, h4, h5, fB]
theorem bo_s1 (n : Dt) (w : Int) (hb : btw (.int w) 1 64 = true) : evS (.ifS (.not_ (.tr (.call false 15 (.cons (.var 1) (.cons (.int 1) (.cons (.int 64) .nil)))))) (.rais "InvalidBits" "value" (.var 1)) .next) (qOf F_bits_of tabL false) (gamN 5 [n, .int w]) = .pure (.nx (gamN 5 [n, .int w])) := by
  simp [gamN, varE, F_bits_of, ev_is_between (.int w) 1 64 (by simp [Dt.tn]), hb]
theorem bo_s2 (n w : Int) (hn : ¬ n < 0) : evS (.ifS (.or_ (.not_ (.tr (.call false 14 (.cons (.var 0) .nil)))) (.test (.op .lt (.var 0) (.int 0)))) (.rais "InvalidBits" "value" (.var 0)) .next) (qOf F_bits_of tabL false) (gamN 5 [.int n, .int w]) = .pure (.nx (gamN 5 [.int n, .int w])) := by
  simp [gamN, varE, F_bits_of, ev_is_integer (.int n) (by simp [Dt.tn]), isInt, hn]
theorem bo_s4 (n : Int) (w : Nat) (h2 : w ≤ 64) : ∃ z, evS (.for_ (.rng1 (.cons (.var 1) .nil)) (.name 4) (.seq (.app 2 (.op .mod (.var 3) (.int 2))) (.asg 3 (.op .div (.var 3) (.int 2))))) (qOf F_bits_of tabL false) [Sl.da (.int n), .da (.int w), .ol false [], .da (.int n), .un] = .pure (.nx [Sl.da (.int n), .da (.int w), .ol false (lowsD w n), .da (.int (rst w n)), z]) := by
  obtain ⟨e1, e2⟩ := bits_fold (upTo 0 w) ([], n, .un)
  rw [upTo_length] at e1 e2
  have ei : evI (.rng1 (.cons (.var 1) .nil)) (qOf F_bits_of tabL false) [Sl.da (.int n), .da (.int w), .ol false [], .da (.int n), .un] = .pure (upTo 0 w) := rng_ev (by simp [varE]) (by omega)
  refine ⟨inS .un ((upTo 0 w).foldl fB ([], n, .un)).2.2, ?_⟩
  rw [evS_for_, ei, Ev.pure_bind]
  simp only [List.map_cons, List.map_nil, outS_da, outS_un, outS_ol]
  rw [evFor_foldP (G := fun (s : List Dt × Int × Sl) => [Sl.da (.int n), .da (.int w), .ol true s.1, .da (.int s.2.1), s.2.2]) (f := fB) (P := fun k s => s.1.length + k ≤ 64) (upTo 0 w) ([], n, .un) (by rw [upTo_length]; simpa using h2) (fun k s x hx hk => ⟨bo_step n w k s x hk, by simp [fB]; omega⟩)]
  simp [e1, e2]
theorem bo_s56 (n w r : Int) (ds : List Dt) (z : Sl) : evS (.seq (.ifS (.test (.op .gt (.var 3) (.int 0))) (.rais "InvalidBits" "value" (.var 0)) .next) (.rel 2 (.ret (.blt .tuple (.cons (.rev (.var 2)) .nil))))) (qOf F_bits_of tabL false) [Sl.da (.int n), .da (.int w), .ol false ds, .da (.int r), z] = if 0 < r then .rais "InvalidBits" [("value", .int n)] else .pure (.rt (.tup ds.reverse)) := by
  by_cases h : 0 < r
  · rw [if_pos h]
    refine seq_rais ?_
    simp [varE, h]
  · rw [if_neg h]
    refine (seq_go (Γ' := [Sl.da (.int n), .da (.int w), .ol false ds, .da (.int r), z]) ?_).trans ?_
    · simp [varE, h]
    · simp [varE]
theorem ev_bits_of (n : Int) (w : Nat) (h1 : 1 ≤ w) (h2 : w ≤ 64) : e_bits_of [.int n, .int w] = if n < 0 ∨ 0 < rst w n then .rais "InvalidBits" [("value", .int n)] else .pure (.tup (lowsD w n).reverse) := by
  have hb : btw (.int w) 1 64 = true := by simp [btw]; omega
  by_cases hn : n < 0
  · rw [if_pos (.inl hn)]
    refine run_rais rfl ((seq_go (bo_s1 _ _ hb)).trans (seq_rais ?_))
    simp [gamN, varE, F_bits_of, ev_is_integer (.int n) (by simp [Dt.tn]), isInt, hn]
  obtain ⟨z, s4⟩ := bo_s4 n w h2
  have s3 : evS (.parO 2 3 (.var 0)) (qOf F_bits_of tabL false) (gamN 5 [.int n, .int w]) = .pure (.nx [Sl.da (.int n), .da (.int w), .ol false [], .da (.int n), .un]) := rfl
  have all : evS tm_bits_of (qOf F_bits_of tabL false) (gamN 5 [.int n, .int w]) = _ := (seq_go (bo_s1 _ _ hb)).trans ((seq_go (bo_s2 n w hn)).trans ((seq_go s3).trans ((seq_go s4).trans (bo_s56 n w (rst w n) (lowsD w n) z))))
  by_cases hr : 0 < rst w n
  · rw [if_pos (.inr hr)]
    rw [if_pos hr] at all
    exact run_rais rfl all
  · rw [if_neg (by omega)]
    rw [if_neg hr] at all
    exact run_ret rfl all
/-! what is heard of an error -/
@[simp] theorem exm1 : tabL.exmF (Str.ofString "InvalidBits") (Str.ofString "PathError") = true := by decide +kernel
@[simp] theorem isa1 : tabL.isaF (Str.ofString "InvalidBits") (Str.ofString "InvalidBits") = some true := by decide +kernel
@[simp] theorem fld1 : tabL.fldF (Str.ofString "InvalidBits") (Str.ofString "value") = true := by decide +kernel
def good (d : Dt) : Prop := d.ro 20 = true ∧ d.rw ≤ 200000
theorem rep_good {d : Dt} (h : good d) : Bl.ev .repr [d] = some (.str d.sh) := by
  rw [b_reprD, h.1, decide_eq_true (by have := h.2; omega)]
  rfl
theorem heard_ex {f : Nat → List Dt → Ev Dt} {d : Dt} (h : good d) : (((evS tm__law_heard ⟨f, true, false, tabL.isaF, tabL.fldF, tabL.exmF, tabL.raiF⟩ (gamE 3 1 "InvalidBits" [("value", d)])).bind retH).calm) = .pure (.tup [.str "bits", .str d.sh]) := by
  simp [tm__law_heard, gamE, varE, rep_good h]
  rfl
/-! picks and rows -/
theorem pick_wp {ds : List Dt} {l : List Nat} (h1 : 0 < ds.length) (h2 : ds.length ≤ 1000) (hl : 1 ≤ l.length) : ∃ d ∈ ds, ∃ l', e__law_pick [.pen, .lst ds] l = some (.ok d, l') ∧ l.length = l'.length + 1 := by
  obtain ⟨i, l', e, i0, i1, el⟩ := draw_wp (m := ds.length) (by omega) (by omega) hl
  obtain ⟨d, ed, hd⟩ := atI_nat i0 i1
  refine ⟨d, hd, l', run_at rfl ?_, el⟩
  simp [tm__law_pick, gamN, varE, F__law_pick]
  rw [bind_at (show (drawF [.pen, .int ds.length]).calm l = some (.ok (.int i), l') by unfold Ev.calm; rw [e])]
  simp [ed]
  rfl
theorem bit_of {i : Int} (h0 : 0 ≤ i) (h1 : i < 2) : ∃ b, Dt.int i = bitD b := by
  have : i = 0 ∨ i = 1 := by omega
  rcases this with rfl | rfl
  · exact ⟨false, rfl⟩
  · exact ⟨true, rfl⟩
theorem bits_of_all {es : List Dt} (h : ∀ e ∈ es, ∃ b, e = bitD b) : ∃ bs : List Bool, es = bs.map bitD := by
  induction es with
  | nil => exact ⟨[], rfl⟩
  | cons e es ih =>
    obtain ⟨b, rfl⟩ := h e (by simp)
    obtain ⟨bs, rfl⟩ := ih fun e he => h e (by simp [he])
    exact ⟨b :: bs, rfl⟩
theorem row_wp {n : Nat} {l : List Nat} (h1 : n ≤ 64) (hl : 129 ≤ l.length) : ∃ bs : List Bool, bs.length = n ∧ ∃ l', e__law_row [.pen, .int n] l = some (.ok (.tup (bs.map bitD)), l') ∧ l.length ≤ l'.length + 129 := by
  obtain ⟨way, l1, e, w0, w1, el⟩ := draw_at (m := 4) (l := l) (by omega) (by omega) (by omega)
  have s1 : evS (.asg 2 (.call false 0 (.cons (.var 0) (.cons (.int 4) .nil)))) (qOf F__law_row tabL false) (gamN 4 [.pen, .int n]) l = some (.ok (.nx [.da .pen, .da (.int n), .da (.int way), .un]), l1) := by
    simp [gamN, varE, F__law_row]
    rw [bind_at e]
    rfl
  obtain ⟨es, l2, h2, h3, h4, h5⟩ := evLc_wp (b := lcB (.name 3) [.da .pen, .da (.int n), .da (.int way), .un] (fun Γ => evT .yes (qOf F__law_row tabL false) Γ) (fun Γ => evE (.op .ix (.lst (.cons (.int 0) (.cons (.int 1) (.cons (.call false 0 (.cons (.var 0) (.cons (.int 2) .nil))) (.cons (.call false 0 (.cons (.var 0) (.cons (.int 2) .nil))) .nil))))) (.var 2)) (qOf F__law_row tabL false) Γ)) (R := fun e => ∃ b, e = bitD b) 2 (upTo 0 n) [] l1 (by rw [upTo_length]; omega) (by simp) (fun d hd l hl => by
    obtain ⟨i, k1, e1, i0, i1, el1⟩ := draw_at (m := 2) (l := l) (by omega) (by omega) (by omega)
    obtain ⟨j, k2, e2, j0, j1, el2⟩ := draw_at (m := 2) (l := k1) (by omega) (by omega) (by omega)
    obtain ⟨x, ex, hx⟩ := atI_nat (xs := [Dt.int 0, .int 1, .int i, .int j]) w0 (by simpa using w1)
    refine ⟨x, k2, ?_, ?_, by omega⟩
    · simp [lcB, wipeG, varE, F__law_row]
      rw [bind_at e1, bind_at e2]
      simp [ex]
      rfl
    · simp only [List.mem_cons, List.mem_nil_iff, or_false] at hx
      rcases hx with rfl | rfl | rfl | rfl
      · exact ⟨false, rfl⟩
      · exact ⟨true, rfl⟩
      · exact bit_of i0 i1
      · exact bit_of j0 j1)
  obtain ⟨bs, rfl⟩ := bits_of_all h3
  rw [upTo_length] at h4 h5
  refine ⟨bs, by simpa using h4, l2, run_at rfl ((seq_at s1).trans ?_), by omega⟩
  have ei : evI (.rng1 (.cons (.var 1) .nil)) (qOf F__law_row tabL false) [Sl.da .pen, .da (.int n), .da (.int way), .un] = .pure (upTo 0 n) := rng_ev (by simp [varE]) (by omega)
  rw [evS_ret, evE_blt, evA_cons, evE_lc, ei, Ev.pure_bind, if_pos (by rw [upTo_length]; exact sz_of (m := 64) h1 rfl)]
  simp only [Ev.bind_assoc, evA_nil]
  rw [bind_at h2]
  rfl
/-! the order -/
theorem numb_cons (b : Bool) (bs : List Bool) : numb (b :: bs) = bitI b * 2 ^ bs.length + numb bs := by
  have key : ∀ (cs : List Bool), lowsum (cs ++ [b]) = lowsum cs + bitI b * 2 ^ cs.length := by
    intro cs
    induction cs with
    | nil => simp [lowsum]
    | cons a cs ih =>
      rw [List.cons_append, lowsum, ih, lowsum, List.length_cons, Int.pow_succ]
      cases b <;> simp [bitI] <;> omega
  unfold numb
  rw [List.reverse_cons, key, List.length_reverse]
  omega
theorem numb_bd : ∀ bs : List Bool, 0 ≤ numb bs ∧ numb bs < 2 ^ bs.length
  | [] => by decide
  | b :: bs => by
    obtain ⟨h1, h2⟩ := numb_bd bs
    rw [numb_cons, List.length_cons, Int.pow_succ]
    cases b <;> simp [bitI] <;> omega
theorem lex_numb : ∀ xs ys : List Bool, xs.length = ys.length → HT.lexLt (xs.map bitI) (ys.map bitI) = decide (numb xs < numb ys)
  | [], [], _ => rfl
  | x :: xs, y :: ys, h => by
    have hl : xs.length = ys.length := by simpa using h
    have ih := lex_numb xs ys hl
    obtain ⟨a1, a2⟩ := numb_bd xs
    obtain ⟨b1, b2⟩ := numb_bd ys
    rw [List.map_cons, List.map_cons, HT.lexLt_cons, ih, numb_cons, numb_cons, hl]
    rw [hl] at a2
    generalize hp : (2 : Int) ^ ys.length = p at *
    cases x <;> cases y <;> simp [bitI] <;> omega
/-! wrong values -/
def wids : List Dt := [.int 0, .int 65, .int (-1), .bl true, .non, .str "8", .tup [.int 8], .int (10 ^ 59), .lst [.int 1], .dic [] []]
def nums (t : Int) : List Dt := [.int t, .int (-1), .bl true, .bl false, .non, .str "1", .tup [.int 1], .int (10 ^ 59), .int (-(10 ^ 59)), .lst [.int 0]]
def things : List Dt := [.tup [], .lst [], .non, .int 0, .str "01", .tup [.int 0, .bl true], .lst [.int 2], .tup (List.replicate 65 (.int 1)), .dic [] [], .tup [.tup [.int 0]], .tup [.int 0, .non], .dic [.inl 0] [.int 1]]
def goodB (d : Dt) : Bool := d.ro 20 && decide (d.rw ≤ 200000)
theorem good_of {d : Dt} (h : goodB d = true) : good d := by
  unfold goodB at h
  rw [Bool.and_eq_true, decide_eq_true_eq] at h
  exact h
theorem wid_ok {w : Dt} (h : w ∈ wids) : w.tn ≠ none ∧ btw w 1 64 = false ∧ good w := by
  have a := List.all_eq_true.mp (show wids.all (fun w => w.tn.isSome && (!btw w 1 64 && goodB w)) = true by decide +kernel) w h
  rw [Bool.and_eq_true, Bool.and_eq_true] at a
  refine ⟨fun z => ?_, by simpa using a.2.1, good_of a.2.2⟩
  rw [z] at a
  exact absurd a.1 (by decide)
theorem log_lt {i : Int} (h0 : 0 ≤ i) (h : i ≤ 2 ^ 64) : i.natAbs.log2 < 1920 := by
  by_cases hz : i.natAbs = 0
  · rw [hz]; decide
  · rw [Nat.log2_lt hz]
    have : i.natAbs ≤ 2 ^ 64 := by omega
    exact Nat.lt_of_le_of_lt this (Nat.pow_lt_pow_right (by decide) (by decide))
theorem pow_bd {n : Nat} (h : n ≤ 64) : (1 : Int) ≤ 2 ^ n ∧ (2 : Int) ^ n ≤ 2 ^ 64 := by
  have : (2 : Nat) ^ n ≤ 2 ^ 64 := Nat.pow_le_pow_right (by decide) h
  have h1 : 1 ≤ (2 : Nat) ^ n := Nat.one_le_two_pow
  have e : ((2 ^ n : Nat) : Int) = (2 : Int) ^ n := by simp
  rw [← e]
  omega
theorem num_ok {n : Nat} {t : Int} {d : Dt} (h1 : 1 ≤ n) (h2 : n ≤ 64) (ht : t = 2 ^ n) (h : d ∈ nums t) : e_bits_of [d, .int n] = .rais "InvalidBits" [("value", d)] ∧ good d ∧ d.ne = true := by
  obtain ⟨p1, p2⟩ := pow_bd h2
  have gi : ∀ i : Int, 0 ≤ i → i ≤ 2 ^ 64 → good (.int i) := fun i a b => ⟨by simp [Dt.ro, log_lt a b], by simp [Dt.rw]⟩
  have big : ∀ i : Int, (2 : Int) ^ n ≤ i → e_bits_of [.int i, .int n] = .rais "InvalidBits" [("value", .int i)] := fun i hi => by
    have hr : 0 < rst n i := by
      rw [rst_div]
      exact Int.lt_of_lt_of_le (by decide : (0 : Int) < 1) ((Int.le_ediv_iff_mul_le (by omega)).mpr (by omega))
    rw [ev_bits_of i n h1 h2, if_pos (.inr hr)]
  have neg : ∀ i : Int, i < 0 → e_bits_of [.int i, .int n] = .rais "InvalidBits" [("value", .int i)] := fun i hi => by
    rw [ev_bits_of i n h1 h2, if_pos (.inl hi)]
  have no : ∀ d : Dt, d.tn ≠ none → isInt d = false → e_bits_of [d, .int n] = .rais "InvalidBits" [("value", d)] := fun d a b => bits_notInt d n a h1 h2 b
  simp only [nums, List.mem_cons, List.mem_nil_iff, or_false] at h
  rcases h with rfl | rfl | rfl | rfl | rfl | rfl | rfl | rfl | rfl | rfl
  · exact ⟨big _ (by omega), gi _ (by omega) (by omega), rfl⟩
  · exact ⟨neg _ (by decide), good_of (by decide +kernel), rfl⟩
  · exact ⟨no _ (by decide) rfl, good_of (by decide +kernel), rfl⟩
  · exact ⟨no _ (by decide) rfl, good_of (by decide +kernel), rfl⟩
  · exact ⟨no _ (by decide) rfl, good_of (by decide +kernel), rfl⟩
  · exact ⟨no _ (by decide) rfl, good_of (by decide +kernel), rfl⟩
  · exact ⟨no _ (by decide) rfl, good_of (by decide +kernel), rfl⟩
  · exact ⟨big _ (by omega), good_of (by decide +kernel), rfl⟩
  · exact ⟨neg _ (by decide), good_of (by decide +kernel), rfl⟩
  · exact ⟨no _ (by decide) rfl, good_of (by decide +kernel), rfl⟩
theorem thing_ok {d : Dt} (h : d ∈ things) : e_number_of [d] = .rais "InvalidBits" [("value", d)] ∧ good d := by
  simp only [things, List.mem_cons, List.mem_nil_iff, or_false] at h
  rcases h with rfl | rfl | rfl | rfl | rfl | rfl | rfl | rfl | rfl | rfl | rfl | rfl <;> exact ⟨rfl, good_of (by decide +kernel)⟩
def told (d : Dt) : Dt := .tup [.str "bits", .str d.sh]
theorem told_pl {d : Dt} (h : good d) (k : Nat) : (told d).pl (k + 1) = true := by
  have a := (sh_ok h.1).2
  have b : PyData.strOk d.sh = true := okS.strOk (b := d.sh.length) ⟨Nat.le_refl _, a⟩
  have c : PyData.strOk (Str.ofString "bits") = true := by decide +kernel
  simp [told, Dt.pl, Dt.pls, b, c]
theorem pw59 : O2.ev .pow (.int 10) (.int 59) = some (.int (10 ^ 59)) := by
  rw [o_powI, if_pos ⟨by decide, by decide, by decide⟩]
  rfl
theorem wn_ne {w : Dt} (h : w ∈ wids) : w.ne = true := List.all_eq_true.mp (show wids.all (fun w => w.ne) = true by decide +kernel) w h
abbrev qR : Qc := qOf F__law_refused_right tabL true
theorem hear_b {Γ : List Sl} {b : Te} {d : Dt} (h : good d) (hb : evE b qR (Γ.map hideS) = .rais "InvalidBits" [("value", d)]) : evE (.hear "PathError" 2 1 3 tm__law_heard b) qR Γ = .pure (told d) := by
  rw [evE_hear, if_pos ⟨rfl, by decide, by decide⟩, hb, Ev.catch_rais, if_pos exm1]
  exact heard_ex h
theorem refused_wp {n : Nat} {t : Int} {l : List Nat} (h1 : 1 ≤ n) (h2 : n ≤ 64) (ht : t = 2 ^ n) (hl : 3 ≤ l.length) : ∃ l', e__law_refused_right [.pen, .int n, .int t] l = some (.ok (.bl true), l') ∧ l.length ≤ l'.length + 3 := by
  obtain ⟨ow, how, l1, e1, el1⟩ := pick_wp (ds := wids) (l := l) (by decide) (by decide) (by omega)
  obtain ⟨od, hod, l2, e2, el2⟩ := pick_wp (ds := nums t) (l := l1) (by simp [nums]) (by simp [nums]) (by omega)
  obtain ⟨th, hth, l3, e3, el3⟩ := pick_wp (ds := things) (l := l2) (by decide) (by decide) (by omega)
  obtain ⟨w1, w2, w3⟩ := wid_ok how
  obtain ⟨b2, g2, _⟩ := num_ok h1 h2 ht hod
  obtain ⟨b3, g3⟩ := thing_ok hth
  have b1 := bits_badW od ow w1 w2
  refine ⟨l3, run_atm rfl rfl ?_, by omega⟩
  refine (seq_at (Γ' := [.da .pen, .da (.int n), .da (.int t), .da ow, .un, .un, .un, .un]) (l' := l1) ?_).trans ?_
  · have e : evE (.lst (.cons (.int 0) (.cons (.int 65) (.cons (.neg (.int 1)) (.cons (.bl true) (.cons .non (.cons (.str "8") (.cons (.tup (.cons (.int 8) .nil)) (.cons (.op .pow (.int 10) (.int 59)) (.cons (.lst (.cons (.int 1) .nil)) (.cons .dnew .nil))))))))))) qR (gamN 8 [.pen, .int n, .int t]) = .pure (.lst wids) := by
      simp [pw59]
      rfl
    rw [evS_asg, evE_call, evA_cons, evA_cons, e]
    simp [varE, gamN, F__law_refused_right]
    rw [bind_at (calm_at e1)]
    rfl
  refine (seq_at (Γ' := [.da .pen, .da (.int n), .da (.int t), .da ow, .da od, .un, .un, .un]) (l' := l2) ?_).trans ?_
  · have e : evE (.lst (.cons (.var 2) (.cons (.neg (.int 1)) (.cons (.bl true) (.cons (.bl false) (.cons .non (.cons (.str "1") (.cons (.tup (.cons (.int 1) .nil)) (.cons (.op .pow (.int 10) (.int 59)) (.cons (.neg (.op .pow (.int 10) (.int 59))) (.cons (.lst (.cons (.int 0) .nil)) .nil))))))))))) qR [.da .pen, .da (.int n), .da (.int t), .da ow, .un, .un, .un, .un] = .pure (.lst (nums t)) := by
      simp [pw59, varE]
      rfl
    rw [evS_asg, evE_call, evA_cons, evA_cons, e]
    simp [varE, F__law_refused_right]
    rw [bind_at (calm_at e2)]
    rfl
  refine (seq_at (Γ' := [.da .pen, .da (.int n), .da (.int t), .da ow, .da od, .ol false [told ow], .un, .un]) (l' := l2) ?_).trans ?_
  · rw [evS_ownL, evA_cons, hear_b w3 (by simp [varE, F__law_refused_right, b1])]
    simp
    rfl
  refine (seq_at (Γ' := [.da .pen, .da (.int n), .da (.int t), .da ow, .da od, .ol false [told ow, told od], .un, .un]) (l' := l2) ?_).trans ?_
  · rw [evS_app, hear_b g2 (by simp [varE, F__law_refused_right, b2])]
    simp
    rfl
  refine (seq_at (Γ' := [.da .pen, .da (.int n), .da (.int t), .da ow, .da od, .ol false [told ow, told od, told od], .un, .un]) (l' := l2) ?_).trans ?_
  · rw [evS_app, hear_b g2 (by simp [varE, F__law_refused_right, b2, gPm])]
    simp
    rfl
  refine (seq_at (Γ' := [.da .pen, .da (.int n), .da (.int t), .da ow, .da od, .da (.lst [told ow, told od, told od]), .un, .un]) (l' := l2) ?_).trans ?_
  · have q := eqE_self (d := .lst [told ow, told od, told od]) (by simp [Dt.pl, Dt.pls, told_pl w3, told_pl g2])
    have q' : eqE (.lst [told ow, told od, told od]) (.lst [.tup [.str (Str.ofString "bits"), .str ow.sh], .tup [.str (Str.ofString "bits"), .str od.sh], .tup [.str (Str.ofString "bits"), .str od.sh]]) = some true := q
    simp [varE, rep_good w3, rep_good g2, q']
    rfl
  refine (seq_at (Γ' := [.da .pen, .da (.int n), .da (.int t), .da ow, .da od, .da (.lst [told ow, told od, told od]), .da (.lst things), .un]) (l' := l2) ?_).trans ?_
  · simp [o_mulT]
    rfl
  refine (seq_at (Γ' := [.da .pen, .da (.int n), .da (.int t), .da ow, .da od, .da (.lst [told ow, told od, told od]), .da (.lst things), .da th]) (l' := l3) ?_).trans ?_
  · simp [varE, F__law_refused_right]
    rw [bind_at (calm_at e3)]
    rfl
  have q := eqE_self (d := told th) (told_pl g3 19)
  have q' : eqE (told th) (.tup [.str (Str.ofString "bits"), .str th.sh]) = some true := q
  rw [evS_ret, evE_op, hear_b g3 (by simp [varE, F__law_refused_right, b3])]
  simp [varE, rep_good g3, q']
  rfl
/-! one turn of the law -/
theorem bits_back (xs : List Bool) (h1 : 1 ≤ xs.length) (h2 : xs.length ≤ 64) : e_bits_of [.int (numb xs), .int (xs.length : Nat)] = .pure (.tup (xs.map bitD)) := by
  obtain ⟨a, b⟩ := lows_sum xs.reverse
  rw [List.length_reverse] at a b
  obtain ⟨c, _⟩ := numb_bd xs
  rw [ev_bits_of _ _ h1 h2, if_neg (by rw [show rst xs.length (numb xs) = 0 from b]; omega)]
  rw [show lowsD xs.length (numb xs) = _ from a, List.map_reverse, List.reverse_reverse]
theorem numb_ones : ∀ n : Nat, numb (List.replicate n true) + 1 = 2 ^ n
  | 0 => by decide
  | n + 1 => by
    have := numb_ones n
    rw [List.replicate_succ, numb_cons, List.length_replicate, Int.pow_succ]
    simp [bitI]
    omega
theorem ints_bits (xs : List Bool) : intsE (xs.map bitD) = some (xs.map bitI) := by
  rw [show xs.map bitD = (xs.map bitI).map Dt.int by rw [List.map_map]; rfl]
  exact intsE_map _
theorem lt_bits (xs ys : List Bool) (h : xs.length = ys.length) : O2.ev .lt (.tup (xs.map bitD)) (.tup (ys.map bitD)) = some (.bl (decide (numb xs < numb ys))) := by
  rw [o_ltT, ints_bits, ints_bits, ← lex_numb xs ys h]
  rfl
theorem numb_log {xs : List Bool} (h : xs.length ≤ 64) : (numb xs).natAbs.log2 < 1920 := by
  obtain ⟨a, b⟩ := numb_bd xs
  obtain ⟨_, c⟩ := pow_bd h
  exact log_lt a (by omega)
theorem bits_ro (k : Nat) : ∀ bs : List Bool, Dt.ros k (bs.map bitD) = true
  | [] => by simp [Dt.ros]
  | b :: bs => by
    rw [List.map_cons, Dt.ros, bits_ro k bs, Bool.and_true]
    cases b <;> simp [bitD, bitI, Dt.ro] <;> decide
theorem bits_rw : ∀ bs : List Bool, Dt.rws (bs.map bitD) = 1923 * bs.length
  | [] => by simp [Dt.rws]
  | b :: bs => by
    rw [List.map_cons, Dt.rws, bits_rw bs, List.length_cons]
    cases b <;> simp [bitD, Dt.rw] <;> omega
theorem rep_due {xs ys : List Bool} (hx : xs.length ≤ 64) (hy : ys.length ≤ 64) : Bl.ev .repr [.lst [.int (numb xs), .int (numb ys)]] = some (.str (Dt.sh (.lst [.int (numb xs), .int (numb ys)]))) := rep_good ⟨by simp [Dt.ro, Dt.ros, numb_log hx, numb_log hy], by simp [Dt.rw, Dt.rws]⟩
theorem rep_num {xs : List Bool} (hx : xs.length ≤ 64) : Bl.ev .repr [.int (numb xs)] = some (.str (Dt.sh (.int (numb xs)))) := rep_good ⟨by simp [Dt.ro, numb_log hx], by simp [Dt.rw]⟩
theorem rep_rows {xs ys : List Bool} (hx : xs.length ≤ 64) (hy : ys.length ≤ 64) : Bl.ev .repr [.lst [.tup (xs.map bitD), .tup (ys.map bitD)]] = some (.str (Dt.sh (.lst [.tup (xs.map bitD), .tup (ys.map bitD)]))) := by
  rw [b_reprD, show Dt.ro 20 (.lst [.tup (xs.map bitD), .tup (ys.map bitD)]) = true by simp [Dt.ro, Dt.ros, bits_ro], decide_eq_true (by simp [Dt.rw, Dt.rws, bits_rw]; omega)]
  rfl
theorem eq_str (x : Str) : eqE (.str x) (.str x) = some true := by simp [eqE, scalD, sameD]
theorem bits_pl (k : Nat) (bs : List Bool) : (Dt.tup (bs.map bitD)).pl (k + 1) = true := pl_tup fun d hd => by
  obtain ⟨b, _, rfl⟩ := List.mem_map.mp hd
  simp [bitD, Dt.pl]
theorem ones_eq (n : Nat) : (List.replicate n [Dt.int 1]).flatten = (List.replicate n true).map bitD := by
  induction n with
  | zero => rfl
  | succ n ih => rw [List.replicate_succ, List.flatten_cons, ih, List.replicate_succ]; rfl
theorem ones_ev {n : Nat} (h1 : 1 ≤ n) (h2 : n ≤ 64) : O2.ev .mul (.tup [.int 1]) (.int n) = some (.tup ((List.replicate n true).map bitD)) := by
  rw [o_mulT, if_pos (by simp; omega), Int.toNat_natCast, ones_eq]
abbrev qL : Qc := qOf F_law tabL true
def inv (Γ : List Sl) : Prop := ∃ s2 s3 s4 s5 s6 s7 s8 s9 : Sl, Γ = [.un, .da .pen, s2, s3, s4, s5, s6, s7, s8, s9]
theorem turn_wp {s2 s3 s4 s5 s6 s7 s8 s9 : Sl} {l : List Nat} {b : Ts} {z : Ts} {it : Ti} {g : Tg} (hb : tm_law = .seq (.for_ it g b) z) (hl : 263 ≤ l.length) : ∃ Γ' l', evS b qL [.un, .da .pen, s2, s3, s4, s5, s6, s7, s8, s9] l = some (.ok (.nx Γ'), l') ∧ inv Γ' ∧ l.length ≤ l'.length + 263 := by
  unfold tm_law at hb
  injection hb with hb1 hb2
  injection hb1 with _ _ hb3
  subst hb3
  obtain ⟨i, l1, e1, i0, i1, el1⟩ := draw_at (m := 64) (l := l) (by omega) (by omega) (by omega)
  obtain ⟨d, hd, l2, e2, el2⟩ := pick_wp (ds := [.int 1, .int 2, .int 3, .int 64, .int (1 + i)]) (l := l1) (by simp) (by simp) (by omega)
  obtain ⟨n, rfl, h1, h2⟩ : ∃ n : Nat, d = .int n ∧ 1 ≤ n ∧ n ≤ 64 := by
    simp only [List.mem_cons, List.mem_nil_iff, or_false] at hd
    rcases hd with rfl | rfl | rfl | rfl | rfl
    · exact ⟨1, rfl, by omega, by omega⟩
    · exact ⟨2, rfl, by omega, by omega⟩
    · exact ⟨3, rfl, by omega, by omega⟩
    · exact ⟨64, rfl, by omega, by omega⟩
    · exact ⟨(1 + i).toNat, by rw [Int.toNat_of_nonneg (by omega)], by omega, by omega⟩
  obtain ⟨xs, hx, l3, e3, el3⟩ := row_wp (n := n) (l := l2) h2 (by omega)
  obtain ⟨ys, hy, l4, e4, el4⟩ := row_wp (n := n) (l := l3) h2 (by omega)
  obtain ⟨l5, e5, el5⟩ := refused_wp (n := n) (t := 2 ^ n) (l := l4) h1 h2 rfl (by omega)
  have sx := ev_sum xs
  have sy := ev_sum ys
  have nx := ev_number_of xs (.tup (xs.map bitD)) (.inr rfl) (by omega) (by omega)
  have ny := ev_number_of ys (.tup (ys.map bitD)) (.inr rfl) (by omega) (by omega)
  have nyl := ev_number_of ys (.lst (ys.map bitD)) (.inl rfl) (by omega) (by omega)
  have bx := bits_back xs (by omega) (by omega)
  have by_ := bits_back ys (by omega) (by omega)
  rw [hx] at bx
  rw [hy] at by_
  have so := ev_sum (List.replicate n true)
  have bo := bits_back (List.replicate n true) (by rw [List.length_replicate]; exact h1) (by rw [List.length_replicate]; exact h2)
  rw [List.length_replicate] at bo
  refine ⟨[.un, .da .pen, s2, .da (.int n), .da (.tup (xs.map bitD)), .da (.tup (ys.map bitD)), .da (.lst [.int (numb xs), .int (numb ys)]), .da (.lst [.int (numb xs), .int (numb ys)]), .da (.lst [.tup (xs.map bitD), .tup (ys.map bitD)]), .da (.int (2 ^ n))], l5, ?_, ⟨_, _, _, _, _, _, _, _, rfl⟩, by omega⟩
  refine (seq_at (Γ' := [.un, .da .pen, s2, .da (.int n), s4, s5, s6, s7, s8, s9]) (l' := l2) ?_).trans ?_
  · simp [varE, F_law]
    rw [bind_at e1]
    simp
    rw [bind_at (calm_at e2)]
    rfl
  refine (seq_at (Γ' := [.un, .da .pen, s2, .da (.int n), .da (.tup (xs.map bitD)), .da (.tup (ys.map bitD)), s6, s7, s8, s9]) (l' := l4) ?_).trans ?_
  · simp [varE, F_law]
    rw [bind_at (calm_at e3), bind_at (calm_at e4)]
    rfl
  refine (seq_at (Γ' := [.un, .da .pen, s2, .da (.int n), .da (.tup (xs.map bitD)), .da (.tup (ys.map bitD)), .da (.lst [.int (numb xs), .int (numb ys)]), s7, s8, s9]) (l' := l4) ?_).trans ?_
  · simp [varE, F_law, sx, sy]
    rfl
  refine (seq_at (Γ' := [.un, .da .pen, s2, .da (.int n), .da (.tup (xs.map bitD)), .da (.tup (ys.map bitD)), .da (.lst [.int (numb xs), .int (numb ys)]), .da (.lst [.int (numb xs), .int (numb ys)]), s8, s9]) (l' := l4) ?_).trans ?_
  · simp [varE, F_law, nx, nyl]
    rfl
  refine (seq_at (Γ' := [.un, .da .pen, s2, .da (.int n), .da (.tup (xs.map bitD)), .da (.tup (ys.map bitD)), .da (.lst [.int (numb xs), .int (numb ys)]), .da (.lst [.int (numb xs), .int (numb ys)]), s8, s9]) (l' := l4) ?_).trans ?_
  · have a0 : atI [Dt.int (numb xs), .int (numb ys)] 1 = some (.int (numb ys)) := rfl
    simp [varE, F_law, ny, rep_due (show xs.length ≤ 64 by omega) (show ys.length ≤ 64 by omega), rep_num (show ys.length ≤ 64 by omega), a0, eq_str]
    rfl
  refine (seq_at (Γ' := [.un, .da .pen, s2, .da (.int n), .da (.tup (xs.map bitD)), .da (.tup (ys.map bitD)), .da (.lst [.int (numb xs), .int (numb ys)]), .da (.lst [.int (numb xs), .int (numb ys)]), .da (.lst [.tup (xs.map bitD), .tup (ys.map bitD)]), s9]) (l' := l4) ?_).trans ?_
  · have a0 : atI [Dt.int (numb xs), .int (numb ys)] 0 = some (.int (numb xs)) := rfl
    have a1 : atI [Dt.int (numb xs), .int (numb ys)] 1 = some (.int (numb ys)) := rfl
    simp [varE, F_law, a0, a1, bx, by_]
    rfl
  refine (seq_at (Γ' := [.un, .da .pen, s2, .da (.int n), .da (.tup (xs.map bitD)), .da (.tup (ys.map bitD)), .da (.lst [.int (numb xs), .int (numb ys)]), .da (.lst [.int (numb xs), .int (numb ys)]), .da (.lst [.tup (xs.map bitD), .tup (ys.map bitD)]), s9]) (l' := l4) ?_).trans ?_
  · have a0 : atI [Dt.int (numb xs), .int (numb ys)] 0 = some (.int (numb xs)) := rfl
    have a1 : atI [Dt.int (numb xs), .int (numb ys)] 1 = some (.int (numb ys)) := rfl
    have e : ∀ b : Bool, eqE (.bl b) (.bl b) = some true := by decide
    simp [varE, F_law, rep_rows (show xs.length ≤ 64 by omega) (show ys.length ≤ 64 by omega), a0, a1, eq_str, lt_bits xs ys (by omega), e]
    rfl
  refine (seq_at (Γ' := [.un, .da .pen, s2, .da (.int n), .da (.tup (xs.map bitD)), .da (.tup (ys.map bitD)), .da (.lst [.int (numb xs), .int (numb ys)]), .da (.lst [.int (numb xs), .int (numb ys)]), .da (.lst [.tup (xs.map bitD), .tup (ys.map bitD)]), s9]) (l' := l4) ?_).trans ?_
  · have a0 : atI [Dt.int (numb xs), .int (numb ys)] 0 = some (.int (numb xs)) := rfl
    by_cases hn : n < 64
    · have q := bits_back (false :: xs) (by simp) (by simp; omega)
      have e0 : numb (false :: xs) = numb xs := by rw [numb_cons]; simp [bitI]
      rw [e0, List.length_cons, hx] at q
      have q1 : e_bits_of [.int (numb xs), .int ((n : Int) + 1)] = .pure (.tup ((false :: xs).map bitD)) := q
      have e := eqE_self (bits_pl 19 (false :: xs))
      have e' : eqE (.tup ((false :: xs).map bitD)) (.tup (.int 0 :: xs.map bitD)) = some true := e
      have hn' : (n : Int) < 64 := by omega
      have hz : 1 + xs.length ≤ 16777216 := by omega
      simp only [List.map_cons] at q1 e'
      simp [varE, F_law, a0, q1, hn', hz, e']
      rfl
    · have hn' : ¬ (n : Int) < 64 := by omega
      simp [varE, F_law, hn']
      rfl
  refine (seq_at (Γ' := [.un, .da .pen, s2, .da (.int n), .da (.tup (xs.map bitD)), .da (.tup (ys.map bitD)), .da (.lst [.int (numb xs), .int (numb ys)]), .da (.lst [.int (numb xs), .int (numb ys)]), .da (.lst [.tup (xs.map bitD), .tup (ys.map bitD)]), .da (.int (2 ^ n))]) (l' := l4) ?_).trans ?_
  · have e9 := numb_ones n
    simp [-List.map_replicate, varE, F_law, ones_ev h1 h2, so, e9]
    rfl
  · have e9 : (2 : Int) ^ n - 1 = numb (List.replicate n true) := by have := numb_ones n; omega
    have e := eqE_self (bits_pl 19 (List.replicate n true))
    simp [-List.map_replicate, varE, F_law, e9, bo, ones_ev h1 h2, e]
    rw [bind_at (calm_at e5)]
    rfl
def law_n : Nat := 3000
theorem most_ok : law_n ≤ penLine := by decide
theorem law_ev : ∀ l : List Nat, l.length = law_n → ∃ l', evS tm_law (qOf F_law tabL true) (gam1 mL) l = some (.ok (.rt (.bl true)), l') := by
  intro l hl
  obtain ⟨it, g, b, z, hb, hi, hg⟩ : ∃ it g b z, tm_law = .seq (.for_ it g b) z ∧ it = .rng1 (.cons (.int 8) .nil) ∧ g = .name 2 := ⟨_, _, _, _, rfl, rfl, rfl⟩
  have ei : evI it qL (gam1 mL) = .pure (upTo 0 8) := by
    rw [hi]
    exact rng_ev (w := 8) rfl (by decide)
  obtain ⟨Γ', l', e1, ⟨s2, s3, s4, s5, s6, s7, s8, s9, rfl⟩, el⟩ := evFor_wp (b := fun d Γ' => (Ev.of (evG g d Γ')).bind fun Γ2 => evS b qL Γ2) (I := inv) 263 (upTo 0 8) ((gam1 mL).map outS) l (by rw [upTo_length, hl]; decide) ⟨_, _, _, _, _, _, _, _, rfl⟩ (fun d hd Γ l hI hl => by
    obtain ⟨s2, s3, s4, s5, s6, s7, s8, s9, rfl⟩ := hI
    obtain ⟨Γ', l', e, h⟩ := turn_wp (s2 := .da d) (s3 := s3) (s4 := s4) (s5 := s5) (s6 := s6) (s7 := s7) (s8 := s8) (s9 := s9) hb hl
    refine ⟨Γ', l', ?_, h⟩
    rw [hg]
    exact e)
  have s1 : evS (.for_ it g b) qL (gam1 mL) l = some (.ok (.nx (back (gam1 mL) [.un, .da .pen, s2, s3, s4, s5, s6, s7, s8, s9])), l') := by
    rw [evS_for_, ei, Ev.pure_bind, bind_at e1]
    rfl
  refine ⟨l', ?_⟩
  have hz : z = (.ret (.and_ (.op .eq (.call false 20 (.cons (.int 6) (.cons (.int 4) .nil))) (.tup (.cons (.int 0) (.cons (.int 1) (.cons (.int 1) (.cons (.int 0) .nil)))))) (.op .eq (.call false 21 (.cons (.lst (.cons (.int 0) (.cons (.int 0) (.cons (.int 0) .nil)))) .nil)) (.int 0)))) := by
    have q : tm_law = .seq (.for_ it g b) z := hb
    unfold tm_law at q
    injection q with _ q2
    exact q2.symm
  rw [hb]
  refine (seq_at s1).trans ?_
  have b6 : e_bits_of [.int 6, .int 4] = .pure (.tup [.int 0, .int 1, .int 1, .int 0]) := ev_bits_of 6 4 (by decide) (by decide)
  have n0 : e_number_of [.lst [.int 0, .int 0, .int 0]] = .pure (.int 0) := ev_number_of [false, false, false] _ (.inl rfl) (by decide) (by decide)
  have q1 : eqE (.tup [.int 0, .int 1, .int 1, .int 0]) (.tup [.int 0, .int 1, .int 1, .int 0]) = some true := by decide
  have q2 : eqE (.int 0) (.int 0) = some true := by decide
  rw [hz]
  simp [F_law, b6, n0, q1, q2]
  rfl
abbrev N__law_pen : List Str := ["_law_script"]
abbrev N__law_draw : List Str := ["_law_pen_here", "_law_many", "_law_digit", "_law_at", "_law_raw", "_law_great", "_law_mixed"]
def t__law_draw (K : PySem.W.Frag) (mg : Str → Option Value) (T : List (Addr × Str)) : TS := (tSeq (tIfS (tTest (tOp rGt (tOp (rIx K) (tVar 0) (tC (.int 2))) (tC (.int 0)))) (tSeq (tAsg (tOp rMod (tCB rInt (tCons (tOp (rIx K) (tVar 0) (tC (.int 2))) tNil)) (tVar 1)) (gName 2))
    (tSeq (tAsg (tOp rDiv (tCB rInt (tCons (tOp (rIx K) (tVar 0) (tC (.int 2))) tNil)) (tVar 1)) (gSub (tVar 0) (tC (.int 2)) rSetL))
    (tRet (tVar 2)))) tNext)
    (tSeq (tAsg (tOp (rIx K) (tVar 0) (tC (.int 1))) (gName 3))
    (tSeq (tAsg (tOp (rAdd K) (tVar 3) (tC (.int 1))) (gSub (tVar 0) (tC (.int 1)) rSetL))
    (tSeq (tAsg (tOp (rAdd K) (tOp (rMulX K) (tC (.int 7241)) (tVar 3)) (tC (.int 389))) (gName 4))
    (tSeq (tIfS (tTest (tOp (rNeX K) (tOp (rIx K) (tVar 0) (tC (.int 0))) (tLst tNil))) (tAsg (tOp (rIx K) (tOp (rIx K) (tVar 0) (tC (.int 0))) (tOp rMod (tCB rInt (tCons (tVar 3) tNil)) (tCB (rLen K) (tCons (tOp (rIx K) (tVar 0) (tC (.int 0))) tNil)))) (gName 4)) tNext)
    (tSeq (tIfS (tAnd (tTest (tOp (rLtX K) (tVar 3) (tCB (rLen K) (tCons (tOp (rIx K) (tVar 0) (tC (.int 0))) tNil)))) (tTest (tOp rGe (tCB rAbs (tCons (tVar 4) tNil)) (tOp rPow (tC (.int 10)) (tC (.int 18)))))) (tSeq (tAsg (tOp (rAdd K) (tOp (rMulX K) (tC (.int 2)) (tCB rAbs (tCons (tVar 4) tNil))) (tCB rInt (tCons (tOp (rLtX K) (tVar 4) (tC (.int 0))) tNil))) (gName 5))
    (tSeq (tAsg (tOp rDiv (tCB rInt (tCons (tVar 5) tNil)) (tVar 1)) (gSub (tVar 0) (tC (.int 2)) rSetL))
    (tRet (tOp rMod (tCB rInt (tCons (tVar 5) tNil)) (tVar 1))))) tNext)
    (tSeq (tAsg (tOp rMod (tCB rInt (tCons (tOp rPow (tOp (rAdd K) (tOp (rAdd K) (tOp rMod (tCB rInt (tCons (tVar 4) tNil)) (tC (.int 2147483549))) (tOp (rMulX K) (tC (.int 7241)) (tVar 3))) (tC (.int 389))) (tC (.int 5))) tNil)) (tC (.int 2147483629))) (gName 6))
    (tSeq (tAsg (tOp rMod (tCB rInt (tCons (tOp rPow (tOp (rAdd K) (tOp (rAdd K) (tOp (rMulX K) (tVar 6) (tOp (rAdd K) (tVar 3) (tC (.int 30017)))) (tOp (rMulX K) (tOp (rMulX K) (tC (.int 60025)) (tVar 3)) (tVar 3))) (tC (.int 29))) (tC (.int 3))) tNil)) (tC (.int 2147483587))) (gName 6))
    (tRet (tOp rMod (tCB rInt (tCons (tOp rDiv (tVar 6) (tC (.int 32))) tNil)) (tVar 1)))))))))))
abbrev N__law_pick : List Str := ["_law_pen_here", "_law_some"]
def t__law_pick (K : PySem.W.Frag) (mg : Str → Option Value) (T : List (Addr × Str)) : TS := (tRet (tOp (rIx K) (tVar 1) (tCB (fun vs H Q => spE K mg T drawF vs H Q E0) (tCons (tVar 0) (tCons (tCB (rLen K) (tCons (tVar 1) tNil)) tNil)))))
abbrev N__law_row : List Str := ["_law_pen_here", "_law_many", "_law_way", "_law_k"]
def t__law_row (K : PySem.W.Frag) (mg : Str → Option Value) (T : List (Addr × Str)) : TS := (tSeq (tAsg (tCB (fun vs H Q => spE K mg T drawF vs H Q E0) (tCons (tVar 0) (tCons (tC (.int 4)) tNil))) (gName 2))
    (tRet (tCB (rTuple K) (tCons (tLc (iRng1 (tCons (tVar 1) tNil)) (gName 3) tYes (tOp (rIx K) (tLst (tCons (tC (.int 0)) (tCons (tC (.int 1)) (tCons (tCB (fun vs H Q => spE K mg T drawF vs H Q E0) (tCons (tVar 0) (tCons (tC (.int 2)) tNil))) (tCons (tCB (fun vs H Q => spE K mg T drawF vs H Q E0) (tCons (tVar 0) (tCons (tC (.int 2)) tNil))) tNil))))) (tVar 2)) [3]) tNil))))
abbrev N__law_sum : List Str := ["_law_row_so", "_law_found", "_law_worth", "_law_one"]
def t__law_sum (K : PySem.W.Frag) (mg : Str → Option Value) (T : List (Addr × Str)) : TS := (tSeq (tAsg (tTup (tCons (tC (.int 0)) (tCons (tC (.int 1)) tNil))) (gTup K 2 (gCons (gName 1) (gCons (gName 2) gNil))))
    (tSeq (tFor (iSq K (tRev K (tVar 0))) (gName 3) (tPar 1 2 (tCons (tOp (rAdd K) (tVar 1) (tOp (rMulX K) (tVar 2) (tVar 3))) (tCons (tOp (rMulX K) (tC (.int 2)) (tVar 2)) tNil))))
    (tRet (tVar 1))))
abbrev N_is_integer : List Str := ["value"]
def t_is_integer (K : PySem.W.Frag) (mg : Str → Option Value) (T : List (Addr × Str)) : TS := (tRet (tAndT K (tCB (rIsi K) (tCons (tVar 0) (tCons (tC (.ty "int")) tNil))) (tNotT K (tCB (rIsi K) (tCons (tVar 0) (tCons (tC (.ty "bool")) tNil))))))
abbrev N_is_between : List Str := ["value", "least", "most"]
def t_is_between (K : PySem.W.Frag) (mg : Str → Option Value) (T : List (Addr × Str)) : TS := (tRet (tAndT K (tCB (fun vs H Q => spE K mg T e_is_integer vs H Q E0) (tCons (tVar 0) tNil)) (tChain rLe rLe (tVar 1) (tVar 0) (tVar 2))))
abbrev N_is_bit : List Str := ["value"]
def t_is_bit (K : PySem.W.Frag) (mg : Str → Option Value) (T : List (Addr × Str)) : TS := (tRet (tCB (fun vs H Q => spE K mg T e_is_between vs H Q E0) (tCons (tVar 0) (tCons (tC (.int 0)) (tCons (tC (.int 1)) tNil)))))
abbrev N_is_bits : List Str := ["value", "bit"]
def t_is_bits (K : PySem.W.Frag) (mg : Str → Option Value) (T : List (Addr × Str)) : TS := (tRet (tAndT K (tCB (rIsiT K) (tCons (tVar 0) (tCons (tTup (tCons (tC (.ty "tuple")) (tCons (tC (.ty "list")) tNil))) tNil))) (tCB (rAll K) (tCons (tLc (iSq K (tVar 0)) (gName 1) tYes (tCB (fun vs H Q => spE K mg T e_is_bit vs H Q E0) (tCons (tVar 1) tNil)) [1]) tNil))))
abbrev N_number_of : List Str := ["bits", "found", "bit"]
def t_number_of (K : PySem.W.Frag) (mg : Str → Option Value) (T : List (Addr × Str)) (E : XK) : TS := (tSeq (tIfS (tOr (tNot (tTr K (tCB (fun vs H Q => spE K mg T e_is_bits vs H Q E0) (tCons (tVar 0) tNil)))) (tNot (tTest (tChain rLe rLe (tC (.int 1)) (tCB (rLen K) (tCons (tVar 0) tNil)) (tC (.int 64)))))) (tRaiseS (He.ga K "InvalidBits") "value" (fun cls d _ H => E cls d H) (tCons (tVar 0) tNil)) tNext)
    (tSeq (tAsg (tC (.int 0)) (gName 1))
    (tSeq (tFor (iSq K (tVar 0)) (gName 2) (tAsg (tOp (rAdd K) (tOp (rMulX K) (tC (.int 2)) (tVar 1)) (tVar 2)) (gName 1)))
    (tRet (tVar 1)))))
abbrev N_bits_of : List Str := ["number", "width", "found", "rest", "place"]
def t_bits_of (K : PySem.W.Frag) (mg : Str → Option Value) (T : List (Addr × Str)) (E : XK) : TS := (tSeq (tIfS (tNot (tTr K (tCB (fun vs H Q => spE K mg T e_is_between vs H Q E0) (tCons (tVar 1) (tCons (tC (.int 1)) (tCons (tC (.int 64)) tNil)))))) (tRaiseS (He.ga K "InvalidBits") "value" (fun cls d _ H => E cls d H) (tCons (tVar 1) tNil)) tNext)
    (tSeq (tIfS (tOr (tNot (tTr K (tCB (fun vs H Q => spE K mg T e_is_integer vs H Q E0) (tCons (tVar 0) tNil)))) (tTest (tOp (rLtX K) (tVar 0) (tC (.int 0))))) (tRaiseS (He.ga K "InvalidBits") "value" (fun cls d _ H => E cls d H) (tCons (tVar 0) tNil)) tNext)
    (tSeq (tPar 2 3 (tCons (tLst tNil) (tCons (tVar 0) tNil)))
    (tSeq (tFor (iRng1 (tCons (tVar 1) tNil)) (gName 4) (tSeq (tDrop (tBM K "list" rAppend (tVar 2) (tCons (tOp rMod (tVar 3) (tC (.int 2))) tNil)))
    (tAsg (tOp rDiv (tVar 3) (tC (.int 2))) (gName 3))))
    (tSeq (tIfS (tTest (tOp rGt (tVar 3) (tC (.int 0)))) (tRaiseS (He.ga K "InvalidBits") "value" (fun cls d _ H => E cls d H) (tCons (tVar 0) tNil)) tNext)
    (tRet (tCB (rTuple K) (tCons (tRev K (tVar 2)) tNil))))))))
abbrev N__law_heard : List Str := ["_law_ask", "_law_caught", "error"]
def k__law_heard (K : PySem.W.Frag) (mg : Str → Option Value) : Addr → Value → Option Addr → TS := fun a cls d => (tRet (tIf (tTr K (tCB (rIsHV K a cls d) (tCons (tVar 1) (tCons (tC (.ref (He.ga K "InvalidBits"))) tNil)))) (tTup (tCons (tC (.str ("bits" : Str))) (tCons (tCB (rRepr K) (tCons (tHVf K a cls d "value" (tVar 1)) tNil)) tNil))) (tC (.str ("odd" : Str)))))
abbrev N__law_refused_right : List Str := ["_law_pen_here", "_law_many", "_law_top", "_law_odd_width", "_law_odd", "_law_told", "_law_some", "_law_thing"]
def t__law_refused_right (K : PySem.W.Frag) (mg : Str → Option Value) (T : List (Addr × Str)) : TS := (tSeq (tAsg (tCB (fun vs H Q => spE K mg T e__law_pick vs H Q E0) (tCons (tVar 0) (tCons (tLst (tCons (tC (.int 0)) (tCons (tC (.int 65)) (tCons (tUn (rU fun i => .int (-i)) (tC (.int 1))) (tCons (tC (.bl true)) (tCons (tC .non) (tCons (tC (.str ("8" : Str))) (tCons (tTup (tCons (tC (.int 8)) tNil)) (tCons (tOp rPow (tC (.int 10)) (tC (.int 59))) (tCons (tLst (tCons (tC (.int 1)) tNil)) (tCons tDNewK tNil))))))))))) tNil))) (gName 3))
    (tSeq (tAsg (tCB (fun vs H Q => spE K mg T e__law_pick vs H Q E0) (tCons (tVar 0) (tCons (tLst (tCons (tVar 2) (tCons (tUn (rU fun i => .int (-i)) (tC (.int 1))) (tCons (tC (.bl true)) (tCons (tC (.bl false)) (tCons (tC .non) (tCons (tC (.str ("1" : Str))) (tCons (tTup (tCons (tC (.int 1)) tNil)) (tCons (tOp rPow (tC (.int 10)) (tC (.int 59))) (tCons (tUn (rU fun i => .int (-i)) (tOp rPow (tC (.int 10)) (tC (.int 59)))) (tCons (tLst (tCons (tC (.int 0)) tNil)) tNil))))))))))) tNil))) (gName 4))
    (tSeq (tAsg (tLst (tCons (LamX.tLam T (TTh K (He.ga K "PathError") 2 1 3 (k__law_heard K mg) wrL) (fun E => (tCB (fun vs H Q => spE K mg T e_bits_of vs H Q E) (tCons (tVar 4) (tCons (tVar 3) tNil))))) tNil)) (gName 5))
    (tSeq (tDrop (tBM K "list" rAppend (tVar 5) (tCons (LamX.tLam T (TTh K (He.ga K "PathError") 2 1 3 (k__law_heard K mg) wrL) (fun E => (tCB (fun vs H Q => spE K mg T e_bits_of vs H Q E) (tCons (tVar 4) (tCons (tVar 1) tNil))))) tNil)))
    (tSeq (tDrop (tBM K "list" rAppend (tVar 5) (tCons (LamX.tLam T (TTh K (He.ga K "PathError") 2 1 3 (k__law_heard K mg) wrL) (fun E => (tCK (gPm [1, 0]) 0 2 (fun vs H Q => spE K mg T e_bits_of vs H Q E) tNil (tCons (tVar 1) (tCons (tVar 4) tNil))))) tNil)))
    (tSeq (tIfS (tTest (tOp (rNeX K) (tVar 5) (tLst (tCons (tTup (tCons (tC (.str ("bits" : Str))) (tCons (tCB (rRepr K) (tCons (tVar 3) tNil)) tNil))) (tCons (tTup (tCons (tC (.str ("bits" : Str))) (tCons (tCB (rRepr K) (tCons (tVar 4) tNil)) tNil))) (tCons (tTup (tCons (tC (.str ("bits" : Str))) (tCons (tCB (rRepr K) (tCons (tVar 4) tNil)) tNil))) tNil)))))) (tRet (tC (.bl false))) tNext)
    (tSeq (tAsg (tLst (tCons (tTup tNil) (tCons (tLst tNil) (tCons (tC .non) (tCons (tC (.int 0)) (tCons (tC (.str ("01" : Str))) (tCons (tTup (tCons (tC (.int 0)) (tCons (tC (.bl true)) tNil))) (tCons (tLst (tCons (tC (.int 2)) tNil)) (tCons (tOp (rMulX K) (tTup (tCons (tC (.int 1)) tNil)) (tC (.int 65))) (tCons tDNewK (tCons (tTup (tCons (tTup (tCons (tC (.int 0)) tNil)) tNil)) (tCons (tTup (tCons (tC (.int 0)) (tCons (tC .non) tNil))) (tCons (tDisp [((tC (.int 0)), (tC (.int 1)))]) tNil))))))))))))) (gName 6))
    (tSeq (tAsg (tCB (fun vs H Q => spE K mg T e__law_pick vs H Q E0) (tCons (tVar 0) (tCons (tVar 6) tNil))) (gName 7))
    (tRet (tOp (rEqX K) (LamX.tLam T (TTh K (He.ga K "PathError") 2 1 3 (k__law_heard K mg) wrL) (fun E => (tCB (fun vs H Q => spE K mg T e_number_of vs H Q E) (tCons (tVar 7) tNil)))) (tTup (tCons (tC (.str ("bits" : Str))) (tCons (tCB (rRepr K) (tCons (tVar 7) tNil)) tNil)))))))))))))
abbrev N_law : List Str := ["_law_script", "_law_pen_here", "_law_turn", "_law_many", "_law_one", "_law_other", "_law_due", "_law_told", "_law_back", "_law_top"]
def r_law (K : PySem.W.Frag) (mg : Str → Option Value) (T : List (Addr × Str)) : TS := (tSeq (tFor (iRng1 (tCons (tC (.int 8)) tNil)) (gName 2) (tSeq (tAsg (tCB (fun vs H Q => spE K mg T e__law_pick vs H Q E0) (tCons (tVar 1) (tCons (tLst (tCons (tC (.int 1)) (tCons (tC (.int 2)) (tCons (tC (.int 3)) (tCons (tC (.int 64)) (tCons (tOp (rAdd K) (tC (.int 1)) (tCB (fun vs H Q => spE K mg T drawF vs H Q E0) (tCons (tVar 1) (tCons (tC (.int 64)) tNil)))) tNil)))))) tNil))) (gName 3))
    (tSeq (tPar 4 5 (tCons (tCB (fun vs H Q => spE K mg T e__law_row vs H Q E0) (tCons (tVar 1) (tCons (tVar 3) tNil))) (tCons (tCB (fun vs H Q => spE K mg T e__law_row vs H Q E0) (tCons (tVar 1) (tCons (tVar 3) tNil))) tNil)))
    (tSeq (tAsg (tLst (tCons (tCB (fun vs H Q => spE K mg T e__law_sum vs H Q E0) (tCons (tVar 4) tNil)) (tCons (tCB (fun vs H Q => spE K mg T e__law_sum vs H Q E0) (tCons (tVar 5) tNil)) tNil))) (gName 6))
    (tSeq (tAsg (tLst (tCons (tCB (fun vs H Q => spE K mg T e_number_of vs H Q E0) (tCons (tVar 4) tNil)) (tCons (tCB (fun vs H Q => spE K mg T e_number_of vs H Q E0) (tCons (tCB (rList K) (tCons (tVar 5) tNil)) tNil)) tNil))) (gName 7))
    (tSeq (tIfS (tOr (tTest (tOp (rNeX K) (tCB (rRepr K) (tCons (tVar 7) tNil)) (tCB (rRepr K) (tCons (tVar 6) tNil)))) (tTest (tOp (rNeX K) (tCB (rRepr K) (tCons (tCK gApp 0 1 (fun vs H Q => spE K mg T e_number_of vs H Q E0) tNil (tCons (tVar 5) tNil)) tNil)) (tCB (rRepr K) (tCons (tOp (rIx K) (tVar 6) (tC (.int 1))) tNil))))) (tRet (tC (.bl false))) tNext)
    (tSeq (tAsg (tLst (tCons (tCB (fun vs H Q => spE K mg T e_bits_of vs H Q E0) (tCons (tOp (rIx K) (tVar 6) (tC (.int 0))) (tCons (tVar 3) tNil))) (tCons (tCK gApp 0 2 (fun vs H Q => spE K mg T e_bits_of vs H Q E0) tNil (tCons (tOp (rIx K) (tVar 6) (tC (.int 1))) (tCons (tVar 3) tNil))) tNil))) (gName 8))
    (tSeq (tIfS (tOr (tTest (tOp (rNeX K) (tCB (rRepr K) (tCons (tVar 8) tNil)) (tCB (rRepr K) (tCons (tLst (tCons (tVar 4) (tCons (tVar 5) tNil))) tNil)))) (tTest (tOp (rNeX K) (tOp (rLtX K) (tVar 4) (tVar 5)) (tOp (rLtX K) (tOp (rIx K) (tVar 6) (tC (.int 0))) (tOp (rIx K) (tVar 6) (tC (.int 1))))))) (tRet (tC (.bl false))) tNext)
    (tSeq (tIfS (tAnd (tTest (tOp (rLtX K) (tVar 3) (tC (.int 64)))) (tTest (tOp (rNeX K) (tCB (fun vs H Q => spE K mg T e_bits_of vs H Q E0) (tCons (tOp (rIx K) (tVar 6) (tC (.int 0))) (tCons (tOp (rAdd K) (tVar 3) (tC (.int 1))) tNil))) (tOp (rAdd K) (tTup (tCons (tC (.int 0)) tNil)) (tVar 4))))) (tRet (tC (.bl false))) tNext)
    (tSeq (tAsg (tOp (rAdd K) (tCB (fun vs H Q => spE K mg T e__law_sum vs H Q E0) (tCons (tOp (rMulX K) (tTup (tCons (tC (.int 1)) tNil)) (tVar 3)) tNil)) (tC (.int 1))) (gName 9))
    (tIfS (tOr (tTest (tOp (rNeX K) (tCB (fun vs H Q => spE K mg T e_bits_of vs H Q E0) (tCons (tOp rSub (tVar 9) (tC (.int 1))) (tCons (tVar 3) tNil))) (tOp (rMulX K) (tTup (tCons (tC (.int 1)) tNil)) (tVar 3)))) (tNot (tTr K (tCB (fun vs H Q => spE K mg T e__law_refused_right vs H Q E0) (tCons (tVar 1) (tCons (tVar 3) (tCons (tVar 9) tNil))))))) (tRet (tC (.bl false))) tNext)))))))))))
    (tRet (tAndT K (tOp (rEqX K) (tCB (fun vs H Q => spE K mg T e_bits_of vs H Q E0) (tCons (tC (.int 6)) (tCons (tC (.int 4)) tNil))) (tTup (tCons (tC (.int 0)) (tCons (tC (.int 1)) (tCons (tC (.int 1)) (tCons (tC (.int 0)) tNil)))))) (tOp (rEqX K) (tCB (fun vs H Q => spE K mg T e_number_of vs H Q E0) (tCons (tLst (tCons (tC (.int 0)) (tCons (tC (.int 0)) (tCons (tC (.int 0)) tNil)))) tNil)) (tC (.int 0))))))
def t_law (K : PySem.W.Frag) (mg : Str → Option Value) (T : List (Addr × Str)) : TS := tSeq (tAsg (tCB (fun vs H Q => spPen K T vs H Q E0) (tCons (tVar 0) tNil)) (gName 1)) (r_law K mg T)
theorem one_tab {a : Addr × Str} : ∀ p ∈ [a], p.1 = a.1 → p.2 = a.2 := fun p hp _ => by rw [List.mem_singleton.mp hp]
structure Glb (P : Program) (K : PySem.W.Frag) (mg : Str → Option Value) : Prop where
  n_abs : mg "abs" = none
  n_all : mg "all" = none
  n_bool : mg "bool" = none
  n_int : mg "int" = none
  n_isinstance : mg "isinstance" = none
  n_len : mg "len" = none
  n_list : mg "list" = none
  n_range : mg "range" = none
  n_repr : mg "repr" = none
  n_tuple : mg "tuple" = none
  c_MOST_WIDTH : ∃ u, mg "MOST_WIDTH" = some u ∧ RelV (.int 64) u
  m_InvalidBits : mg "InvalidBits" = some (.ref (He.ga K "InvalidBits"))
  m_PathError : mg "PathError" = some (.ref (He.ga K "PathError"))
  sup_InvalidBits : SupT P K mg (He.ga K "InvalidBits") (He.ma K (He.ga K "InvalidBits") "__init__") "value"
  sysM : ∃ o, K.lookup sysModules = some o
  ec_InvalidBits : ecB K (He.ga K "InvalidBits") = true
  no_InvalidBits_value : PySem.W.findIn K (.ref (He.ga K "InvalidBits")) "value" = some none
  kit_InvalidBits_InvalidBits : PySem.W.kitOne K (.ref (He.ga K "InvalidBits")) (.ref (He.ga K "InvalidBits")) = some true
  exm_InvalidBits_PathError : PySem.W.exmOne K (.ref (He.ga K "InvalidBits")) (.ref (He.ga K "PathError")) = some true
/-! ### steps -/
local macro_rules | `(tactic| walk_at "e1") => `(tactic| first
  | ((with_reducible show We _ _ _ (tVar _) _); refine w_var rfl ?_)
  | with_reducible refine w_op ?_
  | with_reducible refine w_int ?_
  | with_reducible refine w_str ?_
  | with_reducible refine w_bl ?_
  | with_reducible refine w_non ?_
  | with_reducible refine w_isiStr ?_
  | with_reducible refine w_isiInt ?_
  | with_reducible refine w_isiBool ?_
  | with_reducible refine w_isiList ?_
  | with_reducible refine w_isiTuple ?_
  | with_reducible refine w_isiDict ?_
  | with_reducible refine w_isiTL ?_
  | ((with_reducible show We _ _ _ (tCB (rIsHV _ _ _ _) _) _); refine w_isHV (by rfl) (by rfl) (by rfl) ?_)
  | ((with_reducible show We _ _ _ (tHVf _ _ _ _ _ _) _); refine w_hvf (by rfl) (by rfl) (by rfl) ?_)
  | with_reducible refine w_cb ?_
  | with_reducible refine wa_cons ?_
  | with_reducible refine wa_nil ?_
  | with_reducible refine w_lst ?_
  | with_reducible refine w_tup ?_
  | with_reducible refine w_asg ?_
  | with_reducible refine w_ret ?_
  | with_reducible refine w_retN ?_
  | with_reducible refine w_ifS ?_
  | with_reducible refine w_next ?_
  | with_reducible refine w_break ?_
  | with_reducible refine w_cont ?_
  | with_reducible refine w_chain ?_
  | with_reducible refine w_ckA ?_
  | with_reducible refine w_if ?_
  | with_reducible refine w_andT ?_
  | with_reducible refine w_orT ?_
  | with_reducible refine w_notT ?_
  | with_reducible refine w_un ?_
  | with_reducible refine w_dnew ?_
  | with_reducible refine w_disp ?_
  | with_reducible refine wp_cons ?_
  | with_reducible refine wp_nil ?_
  | with_reducible refine w_joinL ?_
  | with_reducible refine w_splitL ?_
  | with_reducible refine w_sl ?_
  | with_reducible refine wo_none ?_
  | with_reducible refine wo_some ?_
  | with_reducible refine wt_test ?_
  | with_reducible refine wt_tr ?_
  | with_reducible refine wt_and ?_
  | with_reducible refine wt_or ?_
  | with_reducible refine wt_not ?_
  | with_reducible refine wt_yes ?_
  | with_reducible refine wg_name ?_
  | with_reducible refine wi_sq ?_
  | with_reducible refine wi_rng1 ?_
  | with_reducible refine wi_rng2 ?_
  | with_reducible refine w_par ?_
  | with_reducible refine w_forN ?_
  | with_reducible refine w_lcN ?_
  | ((with_reducible refine ex_rng1 ?hb ?_); (case' hb => omega))
  | ((with_reducible refine ex_rng2 ?hb ?_); (case' hb => omega))
  | with_reducible refine w_drop ?_
  | ((with_reducible show Ws _ _ _ (tAsg _ (gSub (tVar _) (tC (.int 2)) rSetL)) _); refine w_setP2 rfl ?_)
  | ((with_reducible show Ws _ _ _ (tAsg _ (gSub (tVar _) (tC (.int 1)) rSetL)) _); refine w_setP1 rfl ?_)
  | with_reducible refine r_neg ?_
  | with_reducible refine r_addI ?_
  | with_reducible refine r_subI ?_
  | with_reducible refine r_ltXI ?_
  | with_reducible refine r_leI ?_
  | with_reducible refine r_gtI ?_
  | with_reducible refine r_geI ?_
  | with_reducible refine r_addL rfl ?_
  | with_reducible refine r_addT rfl ?_
  | ((with_reducible show R2D _ _ (rMulX _) (.int _) (.int _) _); refine r_mulXI (by first | exact Or.inl ⟨by omega, by omega⟩ | exact Or.inr ⟨by omega, by omega⟩) ?_)
  | ((with_reducible show R2D _ _ (rMulX _) (.lst _) (.int _) _); refine r_mulXL (by omega) (by omega) rfl ?_)
  | ((with_reducible show R2D _ _ rMod (.int _) (.int _) _); refine r_modI (by omega) ?_)
  | ((with_reducible show R2D _ _ rDiv (.int _) (.int _) _); refine r_divI (by omega) ?_)
  | ((with_reducible show R2D _ _ rPow (.int 10) (.int _) _); refine r_powI ⟨by decide, by decide, by decide⟩ ?_)
  | ((with_reducible show R2D _ _ (rIx _) .pen (.int 2) _); refine r_ixP2 fun _ => ?_)
  | ((with_reducible show R2D _ _ (rAdd _) (.str _) (.str _) _); refine r_addS (by first | rfl | assumption) ?_)
  | ((with_reducible show RSD _ (rSl _) (.str _) _ _ _); refine s_str (by first | rfl | assumption) ?_)
  | ((with_reducible show RCD _ (rLen _) [.str _] _ _); refine c_lenS (by first | rfl | assumption) ?_)
  | ((with_reducible show List.Nodup _ ∧ _); refine ⟨by decide, by decide, ?_⟩)
  | ((with_reducible show (_ ∧ _) ∧ RCD _ _ _ _ _); refine ⟨⟨rfl, rfl⟩, ?_⟩)
  | with_reducible refine s_lst ?_
  | with_reducible refine s_tup ?_
  | with_reducible refine c_lenL ?_
  | with_reducible refine c_lenT ?_
  | with_reducible refine c_lenD ?_
  | with_reducible refine c_abs ?_
  | with_reducible refine c_intI ?_
  | with_reducible refine c_intB ?_
  | with_reducible refine c_listL ?_
  | with_reducible refine c_listT ?_
  | with_reducible refine c_tupleL ?_
  | with_reducible refine c_tupleT ?_
  | with_reducible refine c_strS ?_
  | with_reducible refine ex_bl ?_
  | with_reducible refine ex_int ?_
  | with_reducible refine ex_str ?_
  | ((with_reducible show _ ∧ _); refine ⟨(show szOk _ = true from rfl), ?_⟩)
  | ((with_reducible show ite _ _ _); first | (refine ite_t (by first | rfl | assumption) ?_) | (refine ite_f (by first | rfl | assumption) ?_))
  | refine ex_tr rfl ?_
  | refine ex_tn rfl ?_
  | refine ex_sq rfl ?_
  | refine ex_key rfl ?_)
local macro_rules | `(tactic| walk_at "e") => `(tactic| repeat walk_at "e1")
local macro_rules | `(tactic| walk_at "w") => `(tactic| repeat (first | with_reducible refine w_seq ?_ | walk_at "e1"))
theorem w__law_draw {P : Program} (c : Fc) (_ : Glb P c.K c.mg) : ∀ ds n, S_draw.pre ds → Ws c (gam N__law_draw ds) (n + S_draw.cost) (t__law_draw c.K c.mg c.T) (ndOf S_draw ds n) := by
  refine b_draw fun m n h1 h2 => ?_
  unfold t__law_draw
  walk_at "w"
  refine ite_b (fun hr => ?_) fun hr => ?_
  · walk_at "w"
    exact ⟨⟨_, rfl, md_bd _ h1⟩, by omega⟩
  · walk_at "w"
    refine r_ixP1 fun at_ a0 a1 => ?_
    walk_at "w"
    refine ⟨_, n, rfl, by omega, by omega, ?_⟩
    refine w_seq ?_
    walk_at "e"
    refine w_cut (fun Γ' n' => n' = n ∧ ∃ raw : Int, Γ' = [Sl.da .pen, .da (.int m), .un, .da (.int at_), .da (.int raw), .un, .un]) ?_ ?_
    · walk_at "e"
      refine r_ixP0 fun hl => ?_
      walk_at "e"
      refine r_neNil (fun _ => ?_) fun hp => ?_
      · walk_at "e"
        exact ⟨rfl, _, rfl⟩
      · walk_at "e"
        refine r_ixP0 fun _ => ?_
        walk_at "e"
        refine r_ixP0 fun _ => ?_
        walk_at "e"
        refine r_modI (by rw [List.length_map]; omega) ?_
        refine r_ixI (md_bd _ ?_).1 ?_ fun raw => ?_
        · rw [List.length_map]; omega
        · have := (md_bd at_ (b := (c.ns.map Dt.int).length) (by rw [List.length_map]; omega)).2
          rw [List.length_map] at this ⊢
          exact this
        exact ⟨rfl, _, rfl⟩
    · rintro Γ' n' ⟨rfl, raw, rfl⟩
      refine w_cut (fun Γ' n2 => n' ≤ n2 ∧ ∃ s5 : Sl, Γ' = [Sl.da .pen, .da (.int m), .un, .da (.int at_), .da (.int raw), s5, .un]) ?_ ?_
      · walk_at "e"
        refine r_ixP0 fun hl => ?_
        walk_at "e"
        refine ite_b (fun hr => ?_) fun hr => ?_
        · walk_at "e"
          refine ite_b (fun hr => ?_) fun hr => ?_
          · walk_at "w"
            exact ⟨⟨_, rfl, md_bd _ h1⟩, Nat.le_refl _⟩
          · walk_at "w"
            exact ⟨Nat.le_refl _, _, rfl⟩
        · walk_at "w"
          exact ⟨Nat.le_refl _, _, rfl⟩
      · rintro Γ' n2 ⟨hn, s5, rfl⟩
        have q := md_bd raw (b := 2147483549) (by omega)
        have b0 := a0
        walk_at "w"
        refine r_powI ⟨by decide, by decide, by omega⟩ ?_
        walk_at "w"
        generalize hq : (raw % 2147483549 + 7241 * at_ + 389) ^ Int.toNat 5 % 2147483629 = mx
        have q2 := md_bd ((raw % 2147483549 + 7241 * at_ + 389) ^ Int.toNat 5) (b := 2147483629) (by omega)
        rw [hq] at q2
        have b1 := mul_bd q2.1 (show mx ≤ 2147483629 by omega) (show 0 ≤ at_ + 30017 by omega) (show at_ + 30017 ≤ 4224321 by omega)
        have b60025 := mul_bd (show 0 ≤ 60025 * at_ by omega) (show 60025 * at_ ≤ 60025 * 4194304 by omega) a0 (show at_ ≤ 4194304 by omega)
        walk_at "w"
        refine r_powI ⟨by decide, by decide, by omega⟩ ?_
        walk_at "w"
        exact ⟨⟨_, rfl, md_bd _ h1⟩, hn⟩
def top (i : Nat) : Stmt := PySem.Challenge.pw_pathbits_k03_whole_numbers_and_bits.main.body.getD i (.Pass ⟨0, 0, 0, 0⟩)
abbrev s__law_pen : Stmt := top 12
theorem sc__law_pen : FnScope N__law_pen ["_law_script"] (defScope s__law_pen) := ⟨rfl, rfl, rfl, by decide +kernel, rfl, by decide +kernel, by decide +kernel⟩
abbrev s__law_draw : Stmt := top 13
theorem sc__law_draw : FnScope N__law_draw ["_law_pen_here", "_law_many"] (defScope s__law_draw) := ⟨rfl, rfl, rfl, by decide +kernel, rfl, by decide +kernel, by decide +kernel⟩
abbrev s__law_pick : Stmt := top 14
theorem sc__law_pick : FnScope N__law_pick ["_law_pen_here", "_law_some"] (defScope s__law_pick) := ⟨rfl, rfl, rfl, by decide +kernel, rfl, by decide +kernel, by decide +kernel⟩
abbrev s__law_row : Stmt := top 15
theorem sc__law_row : FnScope N__law_row ["_law_pen_here", "_law_many"] (defScope s__law_row) := ⟨rfl, rfl, rfl, by decide +kernel, rfl, by decide +kernel, by decide +kernel⟩
abbrev s__law_sum : Stmt := top 16
theorem sc__law_sum : FnScope N__law_sum ["_law_row_so"] (defScope s__law_sum) := ⟨rfl, rfl, rfl, by decide +kernel, rfl, by decide +kernel, by decide +kernel⟩
abbrev s_is_integer : Stmt := top 5
theorem sc_is_integer : FnScope N_is_integer ["value"] (defScope s_is_integer) := ⟨rfl, rfl, rfl, by decide +kernel, rfl, by decide +kernel, by decide +kernel⟩
abbrev s_is_between : Stmt := top 6
theorem sc_is_between : FnScope N_is_between ["value", "least", "most"] (defScope s_is_between) := ⟨rfl, rfl, rfl, by decide +kernel, rfl, by decide +kernel, by decide +kernel⟩
abbrev s_is_bit : Stmt := top 7
theorem sc_is_bit : FnScope N_is_bit ["value"] (defScope s_is_bit) := ⟨rfl, rfl, rfl, by decide +kernel, rfl, by decide +kernel, by decide +kernel⟩
abbrev s_is_bits : Stmt := top 8
theorem sc_is_bits : FnScope N_is_bits ["value"] (defScope s_is_bits) := ⟨rfl, rfl, rfl, by decide +kernel, rfl, by decide +kernel, by decide +kernel⟩
abbrev s_number_of : Stmt := top 10
theorem sc_number_of : FnScope N_number_of ["bits"] (defScope s_number_of) := ⟨rfl, rfl, rfl, by decide +kernel, rfl, by decide +kernel, by decide +kernel⟩
abbrev s_bits_of : Stmt := top 9
theorem sc_bits_of : FnScope N_bits_of ["number", "width"] (defScope s_bits_of) := ⟨rfl, rfl, rfl, by decide +kernel, rfl, by decide +kernel, by decide +kernel⟩
abbrev s__law_heard : Stmt := top 17
theorem sc__law_heard : FnScope N__law_heard ["_law_ask"] (defScope s__law_heard) := ⟨rfl, rfl, rfl, by decide +kernel, rfl, by decide +kernel, by decide +kernel⟩
abbrev s__law_refused_right : Stmt := top 18
theorem sc__law_refused_right : FnScope N__law_refused_right ["_law_pen_here", "_law_many", "_law_top"] (defScope s__law_refused_right) := ⟨rfl, rfl, rfl, by decide +kernel, rfl, by decide +kernel, by decide +kernel⟩
abbrev s_law : Stmt := top 19
theorem sc_law : FnScope N_law ["_law_script"] (defScope s_law) := ⟨rfl, rfl, rfl, by decide +kernel, rfl, by decide +kernel, by decide +kernel⟩
def tabs (K : PySem.W.Frag) : List (Addr × Str) := [((He.cT K ("_law_refused_right", none)).2, ("_law_refused_right" : Str) ++ ".<locals>." ++ "<lambda>")]
theorem tabs_un {K : PySem.W.Frag} {a : Addr × Str} (h : a ∈ tabs K) (hi : ((tabs K).map (·.1)).Nodup) : ∀ p ∈ tabs K, p.1 = a.1 → p.2 = a.2 := fun p hp e => by
  rw [nodup_fst hi hp h e]
theorem tab_ok {P : Program} {K : PySem.W.Frag} {mg : Str → Option Value} (g : Glb P K mg) : TabOk tabL K mg where
  sys := g.sysM
  isa := fun x hx => by
    simp only [tabL, List.mem_cons, List.mem_nil_iff, or_false] at hx
    rcases hx with rfl
    · intro D hD; have e := hD.symm.trans g.m_InvalidBits; cases e; exact ⟨g.ec_InvalidBits, g.kit_InvalidBits_InvalidBits⟩
  fld := fun x hx => by
    simp only [tabL, List.mem_cons, List.mem_nil_iff, or_false] at hx
    rcases hx with rfl
    · intro D hD; have e := hD.symm.trans g.m_InvalidBits; cases e; exact ⟨g.ec_InvalidBits, g.no_InvalidBits_value⟩
  exm := fun x hx => by
    simp only [tabL, List.mem_cons, List.mem_nil_iff, or_false] at hx
    rcases hx with rfl
    · intro D hD; have e := hD.symm.trans g.m_InvalidBits; cases e; exact g.exm_InvalidBits_PathError
  rai := fun x hx => by
    simp only [tabL, List.mem_cons, List.mem_nil_iff, or_false] at hx
    rcases hx with rfl
    · exact g.m_InvalidBits
section
variable {P : Program} {w : World} {K : PySem.W.Frag} {mg : Str → Option Value} {base : Heap} {f : Addr} {fd : FuncData}
theorem d__law_pen {cdv : Value} {A : Around} {outer : List Env} {s : Shared} {H : Hp} {E : XK} (g : Glb P K mg) (hr : RoomG false 0 (A.deeper (envOfC "_law_pen" (defScope s__law_pen) s.heap.objs.size f cdv)))  :
    PSs (cxOf CX0 P w K mg base N__law_pen "_law_pen" (defScope s__law_pen) f cdv A outer s H E).nox (defBody s__law_pen) (t_pen K) :=
  (pss_one (ps_ret (pe_lst (pa_cons (pe_callTy b_list rfl g.n_list (by decide +kernel) (pa_cons (pe_slice sl_any (pv 0) po_none (po_some pe_int)) pa_nil)) (pa_cons pe_int (pa_cons pe_int pa_nil))))))
theorem ok__law_pen (g : Glb P K mg) (F : Fd K "_law_pen" "_law_pen" s__law_pen f fd)  : FnG false P w K mg base CX0 1 f fd ["_law_script"] (spPen K (tabs K)) :=
  okG0 F sc__law_pen (fun vs H Q E h => by obtain ⟨_, _, rfl, _⟩ := h; rfl) fun cdv A outer s H vs Q E hr h => ⟨t_pen K, d__law_pen g hr , pen_made h⟩
theorem cal__law_pen (g : Glb P K mg) (hm : mg "_law_pen" = some (.ref f)) (F : Fd K "_law_pen" "_law_pen" s__law_pen f fd)  : Cal false P w K mg base CX0 1 s__law_pen "_law_pen" ["_law_script"] (spPen K (tabs K)) :=
  ⟨f, fd, hm, F, F.bindsN fun _ _ _ _ _ _ us hl => match us, hl with | [_], _ => rfl, ok__law_pen g F  ⟩
theorem d__law_draw {cdv : Value} {A : Around} {outer : List Env} {s : Shared} {H : Hp} {E : XK} (g : Glb P K mg) (hr : RoomG false 0 (A.deeper (envOfC "_law_draw" (defScope s__law_draw) s.heap.objs.size f cdv)))  :
    PSs (cxOf CX0 P w K mg base N__law_draw "_law_draw" (defScope s__law_draw) f cdv A outer s H E).nox (defBody s__law_draw) (t__law_draw K mg (tabs K)) :=
  (pss_cons (ps_if (pt_cmpR o_gt (pe_ix ix_seq (pv 0) pe_int (fun _ _ => rfl)) pe_int (nomark _)) (pss_cons (ps_set (i := 2) sc__law_draw.nd rfl (Or.inl rfl) (pe_op o_mod (pe_callTy b_int rfl g.n_int (by decide +kernel) (pa_cons (pe_ix ix_seq (pv 0) pe_int (fun _ _ => rfl)) pa_nil)) (pv 1)))
    (pss_cons (ps_asg (pe_op o_div (pe_callTy b_int rfl g.n_int (by decide +kernel) (pa_cons (pe_ix ix_seq (pv 0) pe_int (fun _ _ => rfl)) pa_nil)) (pv 1)) (pg_sub (pv 0) pe_int set_list))
    (pss_one (ps_ret (pv 2))))) pss_nil)
    (pss_cons (ps_set (i := 3) sc__law_draw.nd rfl (Or.inl rfl) (pe_ix ix_seq (pv 0) pe_int (fun _ _ => rfl)))
    (pss_cons (ps_asg (pe_op o_add (pv 3) pe_int) (pg_sub (pv 0) pe_int set_list))
    (pss_cons (ps_set (i := 4) sc__law_draw.nd rfl (Or.inl rfl) (pe_op o_add (pe_op o_mulX pe_int (pv 3)) pe_int))
    (pss_cons (ps_if (pt_cmpR (o_ne hr.rm.units) (pe_ix ix_seq (pv 0) pe_int (fun _ _ => rfl)) (pe_lst pa_nil) (nomark _)) (pss_one (ps_set (i := 4) sc__law_draw.nd rfl (Or.inl rfl) (pe_ix ix_seq (pe_ix ix_seq (pv 0) pe_int (fun _ _ => rfl)) (pe_op o_mod (pe_callTy b_int rfl g.n_int (by decide +kernel) (pa_cons (pv 3) pa_nil)) (pe_callB b_len rfl g.n_len (by decide +kernel) (pa_cons (pe_ix ix_seq (pv 0) pe_int (fun _ _ => rfl)) pa_nil))) (fun _ _ => rfl)))) pss_nil)
    (pss_cons (ps_if (PW.pt (pw_and (pt_cmpR (o_ltX hr.rm.units0) (pv 3) (pe_callB b_len rfl g.n_len (by decide +kernel) (pa_cons (pe_ix ix_seq (pv 0) pe_int (fun _ _ => rfl)) pa_nil)) (nomark _)) (pw_and1 (pt_cmpR o_ge (pe_callB b_abs rfl g.n_abs (by decide +kernel) (pa_cons (pv 4) pa_nil)) (pe_op o_pow pe_int pe_int) (nomark _))))) (pss_cons (ps_set (i := 5) sc__law_draw.nd rfl (Or.inl rfl) (pe_op o_add (pe_op o_mulX pe_int (pe_callB b_abs rfl g.n_abs (by decide +kernel) (pa_cons (pv 4) pa_nil))) (pe_callTy b_int rfl g.n_int (by decide +kernel) (pa_cons (pe_cmpR (o_ltX hr.rm.units0) (pv 4) pe_int (nomark _)) pa_nil))))
    (pss_cons (ps_asg (pe_op o_div (pe_callTy b_int rfl g.n_int (by decide +kernel) (pa_cons (pv 5) pa_nil)) (pv 1)) (pg_sub (pv 0) pe_int set_list))
    (pss_one (ps_ret (pe_op o_mod (pe_callTy b_int rfl g.n_int (by decide +kernel) (pa_cons (pv 5) pa_nil)) (pv 1)))))) pss_nil)
    (pss_cons (ps_set (i := 6) sc__law_draw.nd rfl (Or.inl rfl) (pe_op o_mod (pe_callTy b_int rfl g.n_int (by decide +kernel) (pa_cons (pe_op o_pow (pe_op o_add (pe_op o_add (pe_op o_mod (pe_callTy b_int rfl g.n_int (by decide +kernel) (pa_cons (pv 4) pa_nil)) pe_int) (pe_op o_mulX pe_int (pv 3))) pe_int) pe_int) pa_nil)) pe_int))
    (pss_cons (ps_set (i := 6) sc__law_draw.nd rfl (Or.inl rfl) (pe_op o_mod (pe_callTy b_int rfl g.n_int (by decide +kernel) (pa_cons (pe_op o_pow (pe_op o_add (pe_op o_add (pe_op o_mulX (pv 6) (pe_op o_add (pv 3) pe_int)) (pe_op o_mulX (pe_op o_mulX pe_int (pv 3)) (pv 3))) pe_int) pe_int) pa_nil)) pe_int))
    (pss_one (ps_ret (pe_op o_mod (pe_callTy b_int rfl g.n_int (by decide +kernel) (pa_cons (pe_op o_div (pv 6) pe_int) pa_nil)) (pv 1))))))))))))
theorem ok__law_draw (g : Glb P K mg) (F : Fd K "_law_draw" "_law_draw" s__law_draw f fd)  : FnG false P w K mg base CX0 1 f fd ["_law_pen_here", "_law_many"] (spE K mg (tabs K) drawF) :=
  fnG_draw (okD0 F sc__law_draw l_draw fun cdv A outer s H E hr => ⟨t__law_draw K mg (tabs K), d__law_draw g hr , fun c hK hm hT => by subst hK hm; rw [← hT]; exact w__law_draw c g⟩) fun ds n h => draw_ns h
theorem cal__law_draw (g : Glb P K mg) (hm : mg "_law_draw" = some (.ref f)) (F : Fd K "_law_draw" "_law_draw" s__law_draw f fd)  : Cal false P w K mg base CX0 1 s__law_draw "_law_draw" ["_law_pen_here", "_law_many"] (spE K mg (tabs K) drawF) :=
  ⟨f, fd, hm, F, F.bindsN fun _ _ _ _ _ _ us hl => match us, hl with | [_, _], _ => rfl, ok__law_draw g F  ⟩
theorem d__law_pick {cdv : Value} {A : Around} {outer : List Env} {s : Shared} {H : Hp} {E : XK} (g : Glb P K mg) (hr : RoomG false 1 (A.deeper (envOfC "_law_pick" (defScope s__law_pick) s.heap.objs.size f cdv))) (c__law_draw : Cal false P w K mg base CX0 1 s__law_draw "_law_draw" ["_law_pen_here", "_law_many"] (spE K mg (tabs K) drawF)) :
    PSs (cxOf CX0 P w K mg base N__law_pick "_law_pick" (defScope s__law_pick) f cdv A outer s H E).nox (defBody s__law_pick) (t__law_pick K mg (tabs K)) :=
  (pss_one (ps_ret (pe_ix ix_seq (pv 1) (pe_cal c__law_draw hr pass0 (pa_cons (pv 0) (pa_cons (pe_callB b_len rfl g.n_len (by decide +kernel) (pa_cons (pv 1) pa_nil)) pa_nil))) (fun _ _ => rfl))))
theorem td__law_pick {T : List (Addr × Str)} {E : XK} : denS tm__law_pick ⟨K, T, E0, fun id => spE K mg T (F__law_pick id), 0, .none, none⟩ = t__law_pick K mg T := rfl
theorem ok__law_pick (g : Glb P K mg) (F : Fd K "_law_pick" "_law_pick" s__law_pick f fd) (c__law_draw : Cal false P w K mg base CX0 1 s__law_draw "_law_draw" ["_law_pen_here", "_law_many"] (spE K mg (tabs K) drawF)) : FnG false P w K mg base CX0 2 f fd ["_law_pen_here", "_law_some"] (spE K mg (tabs K) e__law_pick) :=
  okF0 F sc__law_pick rfl rfl (tab_ok g) fun cdv A outer s H E hr => by rw [td__law_pick (E := E0)]; exact d__law_pick g hr c__law_draw
theorem cal__law_pick (g : Glb P K mg) (hm : mg "_law_pick" = some (.ref f)) (F : Fd K "_law_pick" "_law_pick" s__law_pick f fd) (c__law_draw : Cal false P w K mg base CX0 1 s__law_draw "_law_draw" ["_law_pen_here", "_law_many"] (spE K mg (tabs K) drawF)) : Cal false P w K mg base CX0 2 s__law_pick "_law_pick" ["_law_pen_here", "_law_some"] (spE K mg (tabs K) e__law_pick) :=
  ⟨f, fd, hm, F, F.bindsN fun _ _ _ _ _ _ us hl => match us, hl with | [_, _], _ => rfl, ok__law_pick g F  c__law_draw⟩
theorem d__law_row {cdv : Value} {A : Around} {outer : List Env} {s : Shared} {H : Hp} {E : XK} (g : Glb P K mg) (hr : RoomG false 1 (A.deeper (envOfC "_law_row" (defScope s__law_row) s.heap.objs.size f cdv))) (c__law_draw : Cal false P w K mg base CX0 1 s__law_draw "_law_draw" ["_law_pen_here", "_law_many"] (spE K mg (tabs K) drawF)) :
    PSs (cxOf CX0 P w K mg base N__law_row "_law_row" (defScope s__law_row) f cdv A outer s H E).nox (defBody s__law_row) (t__law_row K mg (tabs K)) :=
  (pss_cons (ps_set (i := 2) sc__law_row.nd rfl (Or.inr rfl) (pe_cal c__law_draw hr pass0 (pa_cons (pv 0) (pa_cons pe_int pa_nil))))
    (pss_one (ps_ret (pe_callTy b_tuple rfl g.n_tuple (by decide +kernel) (pa_cons (pe_lc (own := [("_law_k", 3)]) (g := (gName 3)) (tt := tYes) (te := (tOp (rIx K) (tLst (tCons (tC (.int 0)) (tCons (tC (.int 1)) (tCons (tCB (fun vs H Q => spE K mg (tabs K) drawF vs H Q E0) (tCons (tVar 0) (tCons (tC (.int 2)) tNil))) (tCons (tCB (fun vs H Q => spE K mg (tabs K) drawF vs H Q E0) (tCons (tVar 0) (tCons (tC (.int 2)) tNil))) tNil))))) (tVar 2))) rfl sc__law_row.nd (pi_range1 rfl g.n_range (pa_cons (pv 1) pa_nil)) (blkOk_by (own := [("_law_k", 3)]) (N := N__law_row) (sc := defScope s__law_row) (by decide +kernel)) (fun _ _ _ _ _ => (pg_name (i := 3) sc__law_row.nd rfl (Or.inl rfl))) (fun _ _ _ _ _ => pts_nil) (fun _ _ _ _ _ => (pe_ix ix_seq (pe_lst (pa_cons pe_int (pa_cons pe_int (pa_cons (pe_cal c__law_draw hr pass0 (pa_cons (pv 0) (pa_cons pe_int pa_nil))) (pa_cons (pe_cal c__law_draw hr pass0 (pa_cons (pv 0) (pa_cons pe_int pa_nil))) pa_nil))))) (pv 2) (fun _ _ => rfl)))) pa_nil)))))
theorem td__law_row {T : List (Addr × Str)} {E : XK} : denS tm__law_row ⟨K, T, E0, fun id => spE K mg T (F__law_row id), 0, .none, none⟩ = t__law_row K mg T := rfl
theorem ok__law_row (g : Glb P K mg) (F : Fd K "_law_row" "_law_row" s__law_row f fd) (c__law_draw : Cal false P w K mg base CX0 1 s__law_draw "_law_draw" ["_law_pen_here", "_law_many"] (spE K mg (tabs K) drawF)) : FnG false P w K mg base CX0 2 f fd ["_law_pen_here", "_law_many"] (spE K mg (tabs K) e__law_row) :=
  okF0 F sc__law_row rfl rfl (tab_ok g) fun cdv A outer s H E hr => by rw [td__law_row (E := E0)]; exact d__law_row g hr c__law_draw
theorem cal__law_row (g : Glb P K mg) (hm : mg "_law_row" = some (.ref f)) (F : Fd K "_law_row" "_law_row" s__law_row f fd) (c__law_draw : Cal false P w K mg base CX0 1 s__law_draw "_law_draw" ["_law_pen_here", "_law_many"] (spE K mg (tabs K) drawF)) : Cal false P w K mg base CX0 2 s__law_row "_law_row" ["_law_pen_here", "_law_many"] (spE K mg (tabs K) e__law_row) :=
  ⟨f, fd, hm, F, F.bindsN fun _ _ _ _ _ _ us hl => match us, hl with | [_, _], _ => rfl, ok__law_row g F  c__law_draw⟩
theorem d__law_sum {cdv : Value} {A : Around} {outer : List Env} {s : Shared} {H : Hp} {E : XK} (g : Glb P K mg) (hr : RoomG false 0 (A.deeper (envOfC "_law_sum" (defScope s__law_sum) s.heap.objs.size f cdv)))  :
    PSs (cxOf CX0 P w K mg base N__law_sum "_law_sum" (defScope s__law_sum) f cdv A outer s H E).nox (defBody s__law_sum) (t__law_sum K mg (tabs K)) :=
  (pss_cons (ps_asg (pe_tup (pa_cons pe_int (pa_cons pe_int pa_nil))) (pg_tup rfl (pgs_cons (pg_name (i := 1) sc__law_sum.nd rfl (Or.inl rfl)) (pgs_cons (pg_name (i := 2) sc__law_sum.nd rfl (Or.inl rfl)) pgs_nil))))
    (pss_cons (ps_for PassesOwn.never rfl (pi_sq (pe_rev (pv 0))) (pg_name (i := 3) sc__law_sum.nd rfl (Or.inl rfl)) (pss_one (ps_par (by rfl) sc__law_sum.nd (i := 1) (j := 2) rfl rfl (by decide) rfl rfl (pa_cons (pe_op o_add (pv 1) (pe_op o_mulX (pv 2) (pv 3))) (pa_cons (pe_op o_mulX pe_int (pv 2)) pa_nil)) (by rfl))))
    (pss_one (ps_ret (pv 1)))))
theorem td__law_sum {T : List (Addr × Str)} {E : XK} : denS tm__law_sum ⟨K, T, E0, fun id => spE K mg T (F__law_sum id), 0, .none, none⟩ = t__law_sum K mg T := rfl
theorem ok__law_sum (g : Glb P K mg) (F : Fd K "_law_sum" "_law_sum" s__law_sum f fd)  : FnG false P w K mg base CX0 1 f fd ["_law_row_so"] (spE K mg (tabs K) e__law_sum) :=
  okF0 F sc__law_sum rfl rfl (tab_ok g) fun cdv A outer s H E hr => by rw [td__law_sum (E := E0)]; exact d__law_sum g hr 
theorem cal__law_sum (g : Glb P K mg) (hm : mg "_law_sum" = some (.ref f)) (F : Fd K "_law_sum" "_law_sum" s__law_sum f fd)  : Cal false P w K mg base CX0 1 s__law_sum "_law_sum" ["_law_row_so"] (spE K mg (tabs K) e__law_sum) :=
  ⟨f, fd, hm, F, F.bindsN fun _ _ _ _ _ _ us hl => match us, hl with | [_], _ => rfl, ok__law_sum g F  ⟩
theorem d_is_integer {cdv : Value} {A : Around} {outer : List Env} {s : Shared} {H : Hp} {E : XK} (g : Glb P K mg) (hr : RoomG false 0 (A.deeper (envOfC "is_integer" (defScope s_is_integer) s.heap.objs.size f cdv)))  :
    PSs (cxOf CX0 P w K mg base N_is_integer "is_integer" (defScope s_is_integer) f cdv A outer s H E).nox (defBody s_is_integer) (t_is_integer K mg (tabs K)) :=
  (pss_one (ps_ret (pe_andT (pe_callB call_isi rfl g.n_isinstance (by decide +kernel) (pa_cons (pv 0) (pa_cons (pe_bltn rfl g.n_int (by decide +kernel) rfl) pa_nil))) (pe_one (pe_notT (pe_callB call_isi rfl g.n_isinstance (by decide +kernel) (pa_cons (pv 0) (pa_cons (pe_bltn rfl g.n_bool (by decide +kernel) rfl) pa_nil))))))))
theorem td_is_integer {T : List (Addr × Str)} {E : XK} : denS tm_is_integer ⟨K, T, E0, fun id => spE K mg T (F_is_integer id), 0, .none, none⟩ = t_is_integer K mg T := rfl
theorem ok_is_integer (g : Glb P K mg) (F : Fd K "is_integer" "is_integer" s_is_integer f fd)  : FnG false P w K mg base CX0 1 f fd ["value"] (spE K mg (tabs K) e_is_integer) :=
  okF0 F sc_is_integer rfl rfl (tab_ok g) fun cdv A outer s H E hr => by rw [td_is_integer (E := E0)]; exact d_is_integer g hr 
theorem cal_is_integer (g : Glb P K mg) (hm : mg "is_integer" = some (.ref f)) (F : Fd K "is_integer" "is_integer" s_is_integer f fd)  : Cal false P w K mg base CX0 1 s_is_integer "is_integer" ["value"] (spE K mg (tabs K) e_is_integer) :=
  ⟨f, fd, hm, F, F.bindsN fun _ _ _ _ _ _ us hl => match us, hl with | [_], _ => rfl, ok_is_integer g F  ⟩
theorem d_is_between {cdv : Value} {A : Around} {outer : List Env} {s : Shared} {H : Hp} {E : XK} (g : Glb P K mg) (hr : RoomG false 1 (A.deeper (envOfC "is_between" (defScope s_is_between) s.heap.objs.size f cdv))) (c_is_integer : Cal false P w K mg base CX0 1 s_is_integer "is_integer" ["value"] (spE K mg (tabs K) e_is_integer)) :
    PSs (cxOf CX0 P w K mg base N_is_between "is_between" (defScope s_is_between) f cdv A outer s H E).nox (defBody s_is_between) (t_is_between K mg (tabs K)) :=
  (pss_one (ps_ret (pe_andT (pe_cal c_is_integer hr pass0 (pa_cons (pv 0) pa_nil)) (pe_one (pe_chain o_le o_le (pv 1) (pv 0) (pv 2))))))
theorem td_is_between {T : List (Addr × Str)} {E : XK} : denS tm_is_between ⟨K, T, E0, fun id => spE K mg T (F_is_between id), 0, .none, none⟩ = t_is_between K mg T := rfl
theorem ok_is_between (g : Glb P K mg) (F : Fd K "is_between" "is_between" s_is_between f fd) (c_is_integer : Cal false P w K mg base CX0 1 s_is_integer "is_integer" ["value"] (spE K mg (tabs K) e_is_integer)) : FnG false P w K mg base CX0 2 f fd ["value", "least", "most"] (spE K mg (tabs K) e_is_between) :=
  okF0 F sc_is_between rfl rfl (tab_ok g) fun cdv A outer s H E hr => by rw [td_is_between (E := E0)]; exact d_is_between g hr c_is_integer
theorem cal_is_between (g : Glb P K mg) (hm : mg "is_between" = some (.ref f)) (F : Fd K "is_between" "is_between" s_is_between f fd) (c_is_integer : Cal false P w K mg base CX0 1 s_is_integer "is_integer" ["value"] (spE K mg (tabs K) e_is_integer)) : Cal false P w K mg base CX0 2 s_is_between "is_between" ["value", "least", "most"] (spE K mg (tabs K) e_is_between) :=
  ⟨f, fd, hm, F, F.bindsN fun _ _ _ _ _ _ us hl => match us, hl with | [_, _, _], _ => rfl, ok_is_between g F  c_is_integer⟩
theorem d_is_bit {cdv : Value} {A : Around} {outer : List Env} {s : Shared} {H : Hp} {E : XK} (g : Glb P K mg) (hr : RoomG false 2 (A.deeper (envOfC "is_bit" (defScope s_is_bit) s.heap.objs.size f cdv))) (c_is_between : Cal false P w K mg base CX0 2 s_is_between "is_between" ["value", "least", "most"] (spE K mg (tabs K) e_is_between)) :
    PSs (cxOf CX0 P w K mg base N_is_bit "is_bit" (defScope s_is_bit) f cdv A outer s H E).nox (defBody s_is_bit) (t_is_bit K mg (tabs K)) :=
  (pss_one (ps_ret (pe_cal c_is_between hr pass0 (pa_cons (pv 0) (pa_cons pe_int (pa_cons pe_int pa_nil))))))
theorem td_is_bit {T : List (Addr × Str)} {E : XK} : denS tm_is_bit ⟨K, T, E0, fun id => spE K mg T (F_is_bit id), 0, .none, none⟩ = t_is_bit K mg T := rfl
theorem ok_is_bit (g : Glb P K mg) (F : Fd K "is_bit" "is_bit" s_is_bit f fd) (c_is_between : Cal false P w K mg base CX0 2 s_is_between "is_between" ["value", "least", "most"] (spE K mg (tabs K) e_is_between)) : FnG false P w K mg base CX0 3 f fd ["value"] (spE K mg (tabs K) e_is_bit) :=
  okF0 F sc_is_bit rfl rfl (tab_ok g) fun cdv A outer s H E hr => by rw [td_is_bit (E := E0)]; exact d_is_bit g hr c_is_between
theorem cal_is_bit (g : Glb P K mg) (hm : mg "is_bit" = some (.ref f)) (F : Fd K "is_bit" "is_bit" s_is_bit f fd) (c_is_between : Cal false P w K mg base CX0 2 s_is_between "is_between" ["value", "least", "most"] (spE K mg (tabs K) e_is_between)) : Cal false P w K mg base CX0 3 s_is_bit "is_bit" ["value"] (spE K mg (tabs K) e_is_bit) :=
  ⟨f, fd, hm, F, F.bindsN fun _ _ _ _ _ _ us hl => match us, hl with | [_], _ => rfl, ok_is_bit g F  c_is_between⟩
theorem d_is_bits {cdv : Value} {A : Around} {outer : List Env} {s : Shared} {H : Hp} {E : XK} (g : Glb P K mg) (hr : RoomG false 3 (A.deeper (envOfC "is_bits" (defScope s_is_bits) s.heap.objs.size f cdv))) (c_is_bit : Cal false P w K mg base CX0 3 s_is_bit "is_bit" ["value"] (spE K mg (tabs K) e_is_bit)) :
    PSs (cxOf CX0 P w K mg base N_is_bits "is_bits" (defScope s_is_bits) f cdv A outer s H E).nox (defBody s_is_bits) (t_is_bits K mg (tabs K)) :=
  (pss_one (ps_ret (pe_andT (pe_callB call_isiT rfl g.n_isinstance (by decide +kernel) (pa_cons (pv 0) (pa_cons (pe_tup (pa_cons (pe_bltn rfl g.n_tuple (by decide +kernel) rfl) (pa_cons (pe_bltn rfl g.n_list (by decide +kernel) rfl) pa_nil))) pa_nil))) (pe_one (pe_callB (b_all rfl) rfl g.n_all (by decide +kernel) (pa_cons (pe_lc (own := [("bit", 1)]) (g := (gName 1)) (tt := tYes) (te := (tCB (fun vs H Q => spE K mg (tabs K) e_is_bit vs H Q E0) (tCons (tVar 1) tNil))) rfl sc_is_bits.nd (pi_sq (pv 0)) (blkOk_by (own := [("bit", 1)]) (N := N_is_bits) (sc := defScope s_is_bits) (by decide +kernel)) (fun _ _ _ _ _ => (pg_name (i := 1) sc_is_bits.nd rfl (Or.inl rfl))) (fun _ _ _ _ _ => pts_nil) (fun _ _ _ _ _ => (pe_cal c_is_bit hr pass0 (pa_cons (pv 1) pa_nil)))) pa_nil))))))
theorem td_is_bits {T : List (Addr × Str)} {E : XK} : denS tm_is_bits ⟨K, T, E0, fun id => spE K mg T (F_is_bits id), 0, .none, none⟩ = t_is_bits K mg T := rfl
theorem ok_is_bits (g : Glb P K mg) (F : Fd K "is_bits" "is_bits" s_is_bits f fd) (c_is_bit : Cal false P w K mg base CX0 3 s_is_bit "is_bit" ["value"] (spE K mg (tabs K) e_is_bit)) : FnG false P w K mg base CX0 4 f fd ["value"] (spE K mg (tabs K) e_is_bits) :=
  okF0 F sc_is_bits rfl rfl (tab_ok g) fun cdv A outer s H E hr => by rw [td_is_bits (E := E0)]; exact d_is_bits g hr c_is_bit
theorem cal_is_bits (g : Glb P K mg) (hm : mg "is_bits" = some (.ref f)) (F : Fd K "is_bits" "is_bits" s_is_bits f fd) (c_is_bit : Cal false P w K mg base CX0 3 s_is_bit "is_bit" ["value"] (spE K mg (tabs K) e_is_bit)) : Cal false P w K mg base CX0 4 s_is_bits "is_bits" ["value"] (spE K mg (tabs K) e_is_bits) :=
  ⟨f, fd, hm, F, F.bindsN fun _ _ _ _ _ _ us hl => match us, hl with | [_], _ => rfl, ok_is_bits g F  c_is_bit⟩
theorem d_number_of {cdv : Value} {A : Around} {outer : List Env} {s : Shared} {H : Hp} {E : XK} (g : Glb P K mg) (hr : RoomG false 4 (A.deeper (envOfC "number_of" (defScope s_number_of) s.heap.objs.size f cdv))) (c_is_bits : Cal false P w K mg base CX0 4 s_is_bits "is_bits" ["value"] (spE K mg (tabs K) e_is_bits)) :
    PSs (cxOf (L2.CX P w) P w K mg base N_number_of "number_of" (defScope s_number_of) f cdv A outer s H E) (defBody s_number_of) (t_number_of K mg (tabs K) E) :=
  (pss_cons (ps_if (PW.pt (pw_or (pt_not (pt_tr (pe_cal c_is_bits hr pass0 (pa_cons (pv 0) pa_nil)))) (pw_or1 (pt_not (pt_chain o_le o_le pe_int (pe_callB b_len rfl g.n_len (by decide +kernel) (pa_cons (pv 0) pa_nil)) (C8.pe_gc rfl g.c_MOST_WIDTH)))))) (pss_one (ps_raiseS rfl g.sup_InvalidBits g.m_InvalidBits hr.rm (takes_of rfl rfl rfl rfl) (pa_cons (pv 0) pa_nil))) pss_nil)
    (pss_cons (ps_set (i := 1) sc_number_of.nd rfl (Or.inl rfl) pe_int)
    (pss_cons (ps_for (passes_of rfl) rfl (pi_sq (pv 0)) (pg_name (i := 2) sc_number_of.nd rfl (Or.inl rfl)) (pss_one (ps_set (i := 1) sc_number_of.nd rfl (Or.inl rfl) (pe_op o_add (pe_op o_mulX pe_int (pv 1)) (pv 2)))))
    (pss_one (ps_ret (pv 1))))))
theorem td_number_of {T : List (Addr × Str)} {E : XK} : denS tm_number_of ⟨K, T, E, fun id => spE K mg T (F_number_of id), 0, .none, none⟩ = t_number_of K mg T E := rfl
theorem ok_number_of (g : Glb P K mg) (F : Fd K "number_of" "number_of" s_number_of f fd) (c_is_bits : Cal false P w K mg base CX0 4 s_is_bits "is_bits" ["value"] (spE K mg (tabs K) e_is_bits)) : FnG false P w K mg base (L2.CX P w) 5 f fd ["bits"] (spE K mg (tabs K) e_number_of) :=
  okFX F sc_number_of rfl rfl (tab_ok g) fun cdv A outer s H E hr => by rw [td_number_of]; exact d_number_of g hr c_is_bits
theorem cal_number_of (g : Glb P K mg) (hm : mg "number_of" = some (.ref f)) (F : Fd K "number_of" "number_of" s_number_of f fd) (c_is_bits : Cal false P w K mg base CX0 4 s_is_bits "is_bits" ["value"] (spE K mg (tabs K) e_is_bits)) : Cal false P w K mg base (L2.CX P w) 5 s_number_of "number_of" ["bits"] (spE K mg (tabs K) e_number_of) :=
  ⟨f, fd, hm, F, F.bindsN fun _ _ _ _ _ _ us hl => match us, hl with | [_], _ => rfl, ok_number_of g F  c_is_bits⟩
theorem d_bits_of {cdv : Value} {A : Around} {outer : List Env} {s : Shared} {H : Hp} {E : XK} (g : Glb P K mg) (hr : RoomG false 2 (A.deeper (envOfC "bits_of" (defScope s_bits_of) s.heap.objs.size f cdv))) (c_is_between : Cal false P w K mg base CX0 2 s_is_between "is_between" ["value", "least", "most"] (spE K mg (tabs K) e_is_between)) (c_is_integer : Cal false P w K mg base CX0 1 s_is_integer "is_integer" ["value"] (spE K mg (tabs K) e_is_integer)) :
    PSs (cxOf (L2.CX P w) P w K mg base N_bits_of "bits_of" (defScope s_bits_of) f cdv A outer s H E) (defBody s_bits_of) (t_bits_of K mg (tabs K) E) :=
  (pss_cons (ps_if (pt_not (pt_tr (pe_cal c_is_between hr pass0 (pa_cons (pv 1) (pa_cons pe_int (pa_cons (C8.pe_gc rfl g.c_MOST_WIDTH) pa_nil)))))) (pss_one (ps_raiseS rfl g.sup_InvalidBits g.m_InvalidBits hr.rm (takes_of rfl rfl rfl rfl) (pa_cons (pv 1) pa_nil))) pss_nil)
    (pss_cons (ps_if (PW.pt (pw_or (pt_not (pt_tr (pe_cal c_is_integer hr pass0 (pa_cons (pv 0) pa_nil)))) (pw_or1 (pt_cmpR (o_ltX hr.rm.units0) (pv 0) pe_int (nomark _))))) (pss_one (ps_raiseS rfl g.sup_InvalidBits g.m_InvalidBits hr.rm (takes_of rfl rfl rfl rfl) (pa_cons (pv 0) pa_nil))) pss_nil)
    (pss_cons (ps_par (by rfl) sc_bits_of.nd (i := 2) (j := 3) rfl rfl (by decide) rfl rfl (pa_cons (pe_lst pa_nil) (pa_cons (pv 0) pa_nil)) (by rfl))
    (pss_cons (ps_for (passes_of rfl) rfl (pi_range1 rfl g.n_range (pa_cons (pv 1) pa_nil)) (pg_name (i := 4) sc_bits_of.nd rfl (Or.inl rfl)) (pss_cons (ps_expr (pe_bm PySem.F.plainAttrs_list PySem.F.slot_list_append PySem.F.type_list_append mt_append (pv 2) (pa_cons (pe_op o_mod (pv 3) pe_int) pa_nil)))
    (pss_one (ps_set (i := 3) sc_bits_of.nd rfl (Or.inl rfl) (pe_op o_div (pv 3) pe_int)))))
    (pss_cons (ps_if (pt_cmpR o_gt (pv 3) pe_int (nomark _)) (pss_one (ps_raiseS rfl g.sup_InvalidBits g.m_InvalidBits hr.rm (takes_of rfl rfl rfl rfl) (pa_cons (pv 0) pa_nil))) pss_nil)
    (pss_one (ps_ret (pe_callTy b_tuple rfl g.n_tuple (by decide +kernel) (pa_cons (pe_rev (pv 2)) pa_nil)))))))))
theorem td_bits_of {T : List (Addr × Str)} {E : XK} : denS tm_bits_of ⟨K, T, E, fun id => spE K mg T (F_bits_of id), 0, .none, none⟩ = t_bits_of K mg T E := rfl
theorem ok_bits_of (g : Glb P K mg) (F : Fd K "bits_of" "bits_of" s_bits_of f fd) (c_is_between : Cal false P w K mg base CX0 2 s_is_between "is_between" ["value", "least", "most"] (spE K mg (tabs K) e_is_between)) (c_is_integer : Cal false P w K mg base CX0 1 s_is_integer "is_integer" ["value"] (spE K mg (tabs K) e_is_integer)) : FnG false P w K mg base (L2.CX P w) 3 f fd ["number", "width"] (spE K mg (tabs K) e_bits_of) :=
  okFX F sc_bits_of rfl rfl (tab_ok g) fun cdv A outer s H E hr => by rw [td_bits_of]; exact d_bits_of g hr c_is_between c_is_integer
theorem cal_bits_of (g : Glb P K mg) (hm : mg "bits_of" = some (.ref f)) (F : Fd K "bits_of" "bits_of" s_bits_of f fd) (c_is_between : Cal false P w K mg base CX0 2 s_is_between "is_between" ["value", "least", "most"] (spE K mg (tabs K) e_is_between)) (c_is_integer : Cal false P w K mg base CX0 1 s_is_integer "is_integer" ["value"] (spE K mg (tabs K) e_is_integer)) : Cal false P w K mg base (L2.CX P w) 3 s_bits_of "bits_of" ["number", "width"] (spE K mg (tabs K) e_bits_of) :=
  ⟨f, fd, hm, F, F.bindsN fun _ _ _ _ _ _ us hl => match us, hl with | [_, _], _ => rfl, ok_bits_of g F  c_is_between c_is_integer⟩
theorem hear__law_heard {X : Cx} {cdg : Value} {q : Str} (g : Glb X.prog X.K X.mg) (hr0 : RoomG true 1 X.A) : LamX.GivesTo X N__law_heard "_law_heard" (defScope s__law_heard) f cdg (defBody s__law_heard) "_law_ask" q (TTh X.K (He.ga X.K "PathError") 2 1 3 (k__law_heard X.K X.mg) wrL) :=
  heard_gives sc__law_heard.nd rfl rfl (by decide) (by decide) rfl rfl rfl g.m_PathError (by decide) (by decide) (by decide) (fun s H => ps_set (i := 1) sc__law_heard.nd rfl (Or.inl rfl) pe_non) (fun _ _ => rfl) (fun s H pn xe te h => pe_lst (pa_cons (h _ _) pa_nil)) (fun te te2 σ H Q h z => h _ z)
    (fun s H a oe cls d hz hf => by
      have hr := hr0.deeper (envOfC "_law_heard" (defScope s__law_heard) s.heap.objs.size f cdg)
      exact (pss_one (ps_ret (pe_ifExp (pt_tr (pe_callB (call_isHV hz hf) rfl g.n_isinstance (by decide +kernel) (pa_cons (pv 1) (pa_cons (pe_glob rfl g.m_InvalidBits rfl) pa_nil)))) (pe_tup (pa_cons pe_str (pa_cons (pe_callB (b_repr hr) rfl g.n_repr (by decide +kernel) (pa_cons (pe_hvf hz hf (pv 1)) pa_nil)) pa_nil))) pe_str))))
theorem d__law_refused_right {cdv : Value} {A : Around} {outer : List Env} {s : Shared} {H : Hp} {E : XK} (g : Glb P K mg) (hr : RoomG true 8 (A.deeper (envOfC "_law_refused_right" (defScope s__law_refused_right) s.heap.objs.size f cdv))) {fh : Addr} {fdh : FuncData} (F__law_heard : Fd K "_law_heard" "_law_heard" s__law_heard fh fdh) (m__law_heard : mg "_law_heard" = some (.ref fh)) (b__law_heard : Binds K fdh ["_law_ask"] []) (TB : LamX.TabB base mg (He.cT K ("_law_refused_right", none)).1 (He.cT K ("_law_refused_right", none)).2) (hnd : ((tabs K).map (·.1)).Nodup) (hcode : cdv = .ref (He.cT K ("_law_refused_right", none)).1) (c__law_pick : Cal false P w K mg base CX0 2 s__law_pick "_law_pick" ["_law_pen_here", "_law_some"] (spE K mg (tabs K) e__law_pick)) (c_bits_of : Cal false P w K mg base (L2.CX P w) 3 s_bits_of "bits_of" ["number", "width"] (spE K mg (tabs K) e_bits_of)) (c_number_of : Cal false P w K mg base (L2.CX P w) 5 s_number_of "number_of" ["bits"] (spE K mg (tabs K) e_number_of)) :
    PSs (cxOf CX0 P w K mg base N__law_refused_right "_law_refused_right" (defScope s__law_refused_right) f cdv A outer s H E).nox (defBody s__law_refused_right) (t__law_refused_right K mg (tabs K)) :=
  (pss_cons (ps_set (i := 3) sc__law_refused_right.nd rfl (Or.inr rfl) (pe_cal c__law_pick hr pass0 (pa_cons (pv 0) (pa_cons (pe_lst (pa_cons pe_int (pa_cons pe_int (pa_cons (pe_un un_neg pe_int) (pa_cons pe_bl (pa_cons pe_non (pa_cons pe_str (pa_cons (pe_tup (pa_cons pe_int pa_nil)) (pa_cons (pe_op o_pow pe_int pe_int) (pa_cons (pe_lst (pa_cons pe_int pa_nil)) (pa_cons pe_dnewK pa_nil))))))))))) pa_nil))))
    (pss_cons (ps_set (i := 4) sc__law_refused_right.nd rfl (Or.inr rfl) (pe_cal c__law_pick hr pass0 (pa_cons (pv 0) (pa_cons (pe_lst (pa_cons (pv 2) (pa_cons (pe_un un_neg pe_int) (pa_cons pe_bl (pa_cons pe_bl (pa_cons pe_non (pa_cons pe_str (pa_cons (pe_tup (pa_cons pe_int pa_nil)) (pa_cons (pe_op o_pow pe_int pe_int) (pa_cons (pe_un un_neg (pe_op o_pow pe_int pe_int)) (pa_cons (pe_lst (pa_cons pe_int pa_nil)) pa_nil))))))))))) pa_nil))))
    (pss_cons (ps_set (i := 5) sc__law_refused_right.nd rfl (Or.inl rfl) (pe_lst (pa_cons (pe_hear (k := 5) F__law_heard m__law_heard b__law_heard sc__law_heard rfl (Or.inl rfl) (fun cdg => hear__law_heard g (hr.mono (by decide))) TB hcode (List.mem_of_getElem? (i := 0) rfl) (tabs_un (a := ((He.cT K ("_law_refused_right", none)).2, ("_law_refused_right" : Str) ++ ".<locals>." ++ "<lambda>")) (List.mem_of_getElem? (i := 0) rfl) hnd) (hr.rm.mono (by decide)) (LamX.lamS_by (sc := defScope s__law_refused_right) (by decide +kernel)) (fun A outer s H E f c' hr => (pe_cal c_bits_of (roomG_of hr) (passE (takes_of rfl rfl rfl rfl)) (pa_cons (pv 4) (pa_cons (pv 3) pa_nil))))) pa_nil)))
    (pss_cons (ps_expr (pe_bm PySem.F.plainAttrs_list PySem.F.slot_list_append PySem.F.type_list_append mt_append (pv 5) (pa_cons (pe_hear (k := 5) F__law_heard m__law_heard b__law_heard sc__law_heard rfl (Or.inl rfl) (fun cdg => hear__law_heard g (hr.mono (by decide))) TB hcode (List.mem_of_getElem? (i := 0) rfl) (tabs_un (a := ((He.cT K ("_law_refused_right", none)).2, ("_law_refused_right" : Str) ++ ".<locals>." ++ "<lambda>")) (List.mem_of_getElem? (i := 0) rfl) hnd) (hr.rm.mono (by decide)) (LamX.lamS_by (sc := defScope s__law_refused_right) (by decide +kernel)) (fun A outer s H E f c' hr => (pe_cal c_bits_of (roomG_of hr) (passE (takes_of rfl rfl rfl rfl)) (pa_cons (pv 4) (pa_cons (pv 1) pa_nil))))) pa_nil)))
    (pss_cons (ps_expr (pe_bm PySem.F.plainAttrs_list PySem.F.slot_list_append PySem.F.type_list_append mt_append (pv 5) (pa_cons (pe_hear (k := 5) F__law_heard m__law_heard b__law_heard sc__law_heard rfl (Or.inl rfl) (fun cdg => hear__law_heard g (hr.mono (by decide))) TB hcode (List.mem_of_getElem? (i := 0) rfl) (tabs_un (a := ((He.cT K ("_law_refused_right", none)).2, ("_law_refused_right" : Str) ++ ".<locals>." ++ "<lambda>")) (List.mem_of_getElem? (i := 0) rfl) hnd) (hr.rm.mono (by decide)) (LamX.lamS_by (sc := defScope s__law_refused_right) (by decide +kernel)) (fun A outer s H E f c' hr => (pe_calK0 (g := (gPm [1, 0])) (ks := ["width", "number"]) c_bits_of (roomG_of hr) (passE (takes_of rfl rfl rfl rfl)) (fun _ _ _ _ _ _ us ws h1 h2 => match us, ws, h1, h2 with | [], [_, _], _, _ => rfl) (rel_pm [1, 0]) (pk_cons (pv 1) (pk_cons (pv 4) pk_nil))))) pa_nil)))
    (pss_cons (ps_if (pt_cmpR (o_ne hr.rm.units) (pv 5) (pe_lst (pa_cons (pe_tup (pa_cons pe_str (pa_cons (pe_callB (b_repr hr) rfl g.n_repr (by decide +kernel) (pa_cons (pv 3) pa_nil)) pa_nil))) (pa_cons (pe_tup (pa_cons pe_str (pa_cons (pe_callB (b_repr hr) rfl g.n_repr (by decide +kernel) (pa_cons (pv 4) pa_nil)) pa_nil))) (pa_cons (pe_tup (pa_cons pe_str (pa_cons (pe_callB (b_repr hr) rfl g.n_repr (by decide +kernel) (pa_cons (pv 4) pa_nil)) pa_nil))) pa_nil)))) (nomark _)) (pss_one (ps_ret pe_bl)) pss_nil)
    (pss_cons (ps_set (i := 6) sc__law_refused_right.nd rfl (Or.inl rfl) (pe_lst (pa_cons (pe_tup pa_nil) (pa_cons (pe_lst pa_nil) (pa_cons pe_non (pa_cons pe_int (pa_cons pe_str (pa_cons (pe_tup (pa_cons pe_int (pa_cons pe_bl pa_nil))) (pa_cons (pe_lst (pa_cons pe_int pa_nil)) (pa_cons (pe_op o_mulX (pe_tup (pa_cons pe_int pa_nil)) pe_int) (pa_cons pe_dnewK (pa_cons (pe_tup (pa_cons (pe_tup (pa_cons pe_int pa_nil)) pa_nil)) (pa_cons (pe_tup (pa_cons pe_int (pa_cons pe_non pa_nil))) (pa_cons (pe_disp (pps_cons pe_int pe_int pps_nil) (by rfl) (by rfl) (fun z => by cases z) (by decide)) pa_nil))))))))))))))
    (pss_cons (ps_set (i := 7) sc__law_refused_right.nd rfl (Or.inr rfl) (pe_cal c__law_pick hr pass0 (pa_cons (pv 0) (pa_cons (pv 6) pa_nil))))
    (pss_one (ps_ret (pe_cmpR (o_eq hr.rm.units) (pe_hear (k := 5) F__law_heard m__law_heard b__law_heard sc__law_heard rfl (Or.inl rfl) (fun cdg => hear__law_heard g (hr.mono (by decide))) TB hcode (List.mem_of_getElem? (i := 0) rfl) (tabs_un (a := ((He.cT K ("_law_refused_right", none)).2, ("_law_refused_right" : Str) ++ ".<locals>." ++ "<lambda>")) (List.mem_of_getElem? (i := 0) rfl) hnd) (hr.rm.mono (by decide)) (LamX.lamS_by (sc := defScope s__law_refused_right) (by decide +kernel)) (fun A outer s H E f c' hr => (pe_cal c_number_of (roomG_of hr) (passE (takes_of rfl rfl rfl rfl)) (pa_cons (pv 7) pa_nil)))) (pe_tup (pa_cons pe_str (pa_cons (pe_callB (b_repr hr) rfl g.n_repr (by decide +kernel) (pa_cons (pv 7) pa_nil)) pa_nil))) (nomark _))))))))))))
theorem td__law_refused_right {T : List (Addr × Str)} {E : XK} : denS tm__law_refused_right ⟨K, T, E0, fun id => spE K mg T (F__law_refused_right id), 0, .none, none⟩ = t__law_refused_right K mg T := rfl
theorem ok__law_refused_right (g : Glb P K mg) (F : Fd K "_law_refused_right" "_law_refused_right" s__law_refused_right f fd) {fh : Addr} {fdh : FuncData} (F__law_heard : Fd K "_law_heard" "_law_heard" s__law_heard fh fdh) (m__law_heard : mg "_law_heard" = some (.ref fh)) (b__law_heard : Binds K fdh ["_law_ask"] []) (TB : LamX.TabB base mg (He.cT K ("_law_refused_right", none)).1 (He.cT K ("_law_refused_right", none)).2) (hnd : ((tabs K).map (·.1)).Nodup) (hf : He.fAd K ("_law_refused_right", none) = f) (c__law_pick : Cal false P w K mg base CX0 2 s__law_pick "_law_pick" ["_law_pen_here", "_law_some"] (spE K mg (tabs K) e__law_pick)) (c_bits_of : Cal false P w K mg base (L2.CX P w) 3 s_bits_of "bits_of" ["number", "width"] (spE K mg (tabs K) e_bits_of)) (c_number_of : Cal false P w K mg base (L2.CX P w) 5 s_number_of "number_of" ["bits"] (spE K mg (tabs K) e_number_of)) : FnG true P w K mg base CX0 9 f fd ["_law_pen_here", "_law_many", "_law_top"] (spE K mg (tabs K) e__law_refused_right) :=
  okFm F sc__law_refused_right rfl rfl (tab_ok g) fun A outer s H E hr => by rw [td__law_refused_right (E := E0)]; exact d__law_refused_right g hr F__law_heard m__law_heard b__law_heard TB hnd (maker_code F (p := ("_law_refused_right", none)) hf) c__law_pick c_bits_of c_number_of
theorem cal__law_refused_right (g : Glb P K mg) (hm : mg "_law_refused_right" = some (.ref f)) (F : Fd K "_law_refused_right" "_law_refused_right" s__law_refused_right f fd) {fh : Addr} {fdh : FuncData} (F__law_heard : Fd K "_law_heard" "_law_heard" s__law_heard fh fdh) (m__law_heard : mg "_law_heard" = some (.ref fh)) (b__law_heard : Binds K fdh ["_law_ask"] []) (TB : LamX.TabB base mg (He.cT K ("_law_refused_right", none)).1 (He.cT K ("_law_refused_right", none)).2) (hnd : ((tabs K).map (·.1)).Nodup) (hf : He.fAd K ("_law_refused_right", none) = f) (c__law_pick : Cal false P w K mg base CX0 2 s__law_pick "_law_pick" ["_law_pen_here", "_law_some"] (spE K mg (tabs K) e__law_pick)) (c_bits_of : Cal false P w K mg base (L2.CX P w) 3 s_bits_of "bits_of" ["number", "width"] (spE K mg (tabs K) e_bits_of)) (c_number_of : Cal false P w K mg base (L2.CX P w) 5 s_number_of "number_of" ["bits"] (spE K mg (tabs K) e_number_of)) : Cal true P w K mg base CX0 9 s__law_refused_right "_law_refused_right" ["_law_pen_here", "_law_many", "_law_top"] (spE K mg (tabs K) e__law_refused_right) :=
  ⟨f, fd, hm, F, F.bindsN fun _ _ _ _ _ _ us hl => match us, hl with | [_, _, _], _ => rfl, ok__law_refused_right g F F__law_heard m__law_heard b__law_heard TB hnd hf c__law_pick c_bits_of c_number_of⟩
theorem d_law {cdv : Value} {A : Around} {outer : List Env} {s : Shared} {H : Hp} {E : XK} (g : Glb P K mg) (hr : RoomG true 9 (A.deeper (envOfC "law" (defScope s_law) s.heap.objs.size f cdv))) (c__law_pen : Cal false P w K mg base CX0 1 s__law_pen "_law_pen" ["_law_script"] (spPen K (tabs K))) (c__law_pick : Cal false P w K mg base CX0 2 s__law_pick "_law_pick" ["_law_pen_here", "_law_some"] (spE K mg (tabs K) e__law_pick)) (c__law_draw : Cal false P w K mg base CX0 1 s__law_draw "_law_draw" ["_law_pen_here", "_law_many"] (spE K mg (tabs K) drawF)) (c__law_row : Cal false P w K mg base CX0 2 s__law_row "_law_row" ["_law_pen_here", "_law_many"] (spE K mg (tabs K) e__law_row)) (c__law_sum : Cal false P w K mg base CX0 1 s__law_sum "_law_sum" ["_law_row_so"] (spE K mg (tabs K) e__law_sum)) (c_number_of : Cal false P w K mg base (L2.CX P w) 5 s_number_of "number_of" ["bits"] (spE K mg (tabs K) e_number_of)) (c_bits_of : Cal false P w K mg base (L2.CX P w) 3 s_bits_of "bits_of" ["number", "width"] (spE K mg (tabs K) e_bits_of)) (c__law_refused_right : Cal true P w K mg base CX0 9 s__law_refused_right "_law_refused_right" ["_law_pen_here", "_law_many", "_law_top"] (spE K mg (tabs K) e__law_refused_right)) :
    PSs (cxOf CX0 P w K mg base N_law "law" (defScope s_law) f cdv A outer s H E).nox (defBody s_law) (t_law K mg (tabs K)) :=
  (pss_cons (ps_set (i := 1) sc_law.nd rfl (Or.inl rfl) (pe_cal c__law_pen hr pass0 (pa_cons (pv 0) pa_nil)))
    (pss_cons (ps_for PassesOwn.never rfl (pi_range1 rfl g.n_range (pa_cons pe_int pa_nil)) (pg_name (i := 2) sc_law.nd rfl (Or.inl rfl)) (pss_cons (ps_set (i := 3) sc_law.nd rfl (Or.inl rfl) (pe_cal c__law_pick hr pass0 (pa_cons (pv 1) (pa_cons (pe_lst (pa_cons pe_int (pa_cons pe_int (pa_cons pe_int (pa_cons pe_int (pa_cons (pe_op o_add pe_int (pe_cal c__law_draw hr pass0 (pa_cons (pv 1) (pa_cons pe_int pa_nil)))) pa_nil)))))) pa_nil))))
    (pss_cons (ps_par (by rfl) sc_law.nd (i := 4) (j := 5) rfl rfl (by decide) rfl rfl (pa_cons (pe_cal c__law_row hr pass0 (pa_cons (pv 1) (pa_cons (pv 3) pa_nil))) (pa_cons (pe_cal c__law_row hr pass0 (pa_cons (pv 1) (pa_cons (pv 3) pa_nil))) pa_nil)) (by rfl))
    (pss_cons (ps_set (i := 6) sc_law.nd rfl (Or.inl rfl) (pe_lst (pa_cons (pe_cal c__law_sum hr pass0 (pa_cons (pv 4) pa_nil)) (pa_cons (pe_cal c__law_sum hr pass0 (pa_cons (pv 5) pa_nil)) pa_nil))))
    (pss_cons (ps_set (i := 7) sc_law.nd rfl (Or.inl rfl) (pe_lst (pa_cons (pe_cal c_number_of hr passX0 (pa_cons (pv 4) pa_nil)) (pa_cons (pe_cal c_number_of hr passX0 (pa_cons (pe_callTy b_list rfl g.n_list (by decide +kernel) (pa_cons (pv 5) pa_nil)) pa_nil)) pa_nil))))
    (pss_cons (ps_if (PW.pt (pw_or (pt_cmpR (o_ne hr.rm.units) (pe_callB (b_repr hr) rfl g.n_repr (by decide +kernel) (pa_cons (pv 7) pa_nil)) (pe_callB (b_repr hr) rfl g.n_repr (by decide +kernel) (pa_cons (pv 6) pa_nil)) (nomark _)) (pw_or1 (pt_cmpR (o_ne hr.rm.units) (pe_callB (b_repr hr) rfl g.n_repr (by decide +kernel) (pa_cons (pe_calK0 (g := gApp) (ks := ["bits"]) c_number_of hr passX0 (fun _ _ _ _ _ _ us ws h1 h2 => match us, ws, h1, h2 with | [], [_], _, _ => rfl) rel_app (pk_cons (pv 5) pk_nil)) pa_nil)) (pe_callB (b_repr hr) rfl g.n_repr (by decide +kernel) (pa_cons (pe_ix ix_seq (pv 6) pe_int (fun _ _ => rfl)) pa_nil)) (nomark _))))) (pss_one (ps_ret pe_bl)) pss_nil)
    (pss_cons (ps_set (i := 8) sc_law.nd rfl (Or.inl rfl) (pe_lst (pa_cons (pe_cal c_bits_of hr passX0 (pa_cons (pe_ix ix_seq (pv 6) pe_int (fun _ _ => rfl)) (pa_cons (pv 3) pa_nil))) (pa_cons (pe_calK0 (g := gApp) (ks := ["number", "width"]) c_bits_of hr passX0 (fun _ _ _ _ _ _ us ws h1 h2 => match us, ws, h1, h2 with | [], [_, _], _, _ => rfl) rel_app (pk_cons (pe_ix ix_seq (pv 6) pe_int (fun _ _ => rfl)) (pk_cons (pv 3) pk_nil))) pa_nil))))
    (pss_cons (ps_if (PW.pt (pw_or (pt_cmpR (o_ne hr.rm.units) (pe_callB (b_repr hr) rfl g.n_repr (by decide +kernel) (pa_cons (pv 8) pa_nil)) (pe_callB (b_repr hr) rfl g.n_repr (by decide +kernel) (pa_cons (pe_lst (pa_cons (pv 4) (pa_cons (pv 5) pa_nil))) pa_nil)) (nomark _)) (pw_or1 (pt_cmpR (o_ne hr.rm.units) (pe_cmpR (o_ltX hr.rm.units0) (pv 4) (pv 5) (nomark _)) (pe_cmpR (o_ltX hr.rm.units0) (pe_ix ix_seq (pv 6) pe_int (fun _ _ => rfl)) (pe_ix ix_seq (pv 6) pe_int (fun _ _ => rfl)) (nomark _)) (nomark _))))) (pss_one (ps_ret pe_bl)) pss_nil)
    (pss_cons (ps_if (PW.pt (pw_and (pt_cmpR (o_ltX hr.rm.units0) (pv 3) pe_int (nomark _)) (pw_and1 (pt_cmpR (o_ne hr.rm.units) (pe_cal c_bits_of hr passX0 (pa_cons (pe_ix ix_seq (pv 6) pe_int (fun _ _ => rfl)) (pa_cons (pe_op o_add (pv 3) pe_int) pa_nil))) (pe_op o_add (pe_tup (pa_cons pe_int pa_nil)) (pv 4)) (nomark _))))) (pss_one (ps_ret pe_bl)) pss_nil)
    (pss_cons (ps_set (i := 9) sc_law.nd rfl (Or.inl rfl) (pe_op o_add (pe_cal c__law_sum hr pass0 (pa_cons (pe_op o_mulX (pe_tup (pa_cons pe_int pa_nil)) (pv 3)) pa_nil)) pe_int))
    (pss_one (ps_if (PW.pt (pw_or (pt_cmpR (o_ne hr.rm.units) (pe_cal c_bits_of hr passX0 (pa_cons (pe_op o_sub (pv 9) pe_int) (pa_cons (pv 3) pa_nil))) (pe_op o_mulX (pe_tup (pa_cons pe_int pa_nil)) (pv 3)) (nomark _)) (pw_or1 (pt_not (pt_tr (pe_cal c__law_refused_right hr pass0 (pa_cons (pv 1) (pa_cons (pv 3) (pa_cons (pv 9) pa_nil))))))))) (pss_one (ps_ret pe_bl)) pss_nil))))))))))))
    (pss_one (ps_ret (pe_andT (pe_cmpR (o_eq hr.rm.units) (pe_cal c_bits_of hr passX0 (pa_cons pe_int (pa_cons pe_int pa_nil))) (pe_tup (pa_cons pe_int (pa_cons pe_int (pa_cons pe_int (pa_cons pe_int pa_nil))))) (nomark _)) (pe_one (pe_cmpR (o_eq hr.rm.units) (pe_cal c_number_of hr passX0 (pa_cons (pe_lst (pa_cons pe_int (pa_cons pe_int (pa_cons pe_int pa_nil)))) pa_nil)) pe_int (nomark _))))))))
theorem td_law {T : List (Addr × Str)} : denS tm_law ⟨K, T, E0, fun id => spE K mg T (F_law id), 0, .none, none⟩ = r_law K mg T := rfl
theorem ok_law (g : Glb P K mg) (F : Fd K "law" "law" s_law f fd) (c__law_pen : Cal false P w K mg base CX0 1 s__law_pen "_law_pen" ["_law_script"] (spPen K (tabs K))) (c__law_pick : Cal false P w K mg base CX0 2 s__law_pick "_law_pick" ["_law_pen_here", "_law_some"] (spE K mg (tabs K) e__law_pick)) (c__law_draw : Cal false P w K mg base CX0 1 s__law_draw "_law_draw" ["_law_pen_here", "_law_many"] (spE K mg (tabs K) drawF)) (c__law_row : Cal false P w K mg base CX0 2 s__law_row "_law_row" ["_law_pen_here", "_law_many"] (spE K mg (tabs K) e__law_row)) (c__law_sum : Cal false P w K mg base CX0 1 s__law_sum "_law_sum" ["_law_row_so"] (spE K mg (tabs K) e__law_sum)) (c_number_of : Cal false P w K mg base (L2.CX P w) 5 s_number_of "number_of" ["bits"] (spE K mg (tabs K) e_number_of)) (c_bits_of : Cal false P w K mg base (L2.CX P w) 3 s_bits_of "bits_of" ["number", "width"] (spE K mg (tabs K) e_bits_of)) (c__law_refused_right : Cal true P w K mg base CX0 9 s__law_refused_right "_law_refused_right" ["_law_pen_here", "_law_many", "_law_top"] (spE K mg (tabs K) e__law_refused_right)) : FnG true P w K mg base CX0 10 f fd ["_law_script"] (spLaw K (tabs K)) :=
  okG0 F sc_law (fun vs H Q E h => by obtain ⟨_, _, rfl, _⟩ := h; rfl) fun cdv A outer s H vs Q E hr h => ⟨t_law K mg (tabs K), d_law g hr c__law_pen c__law_pick c__law_draw c__law_row c__law_sum c_number_of c_bits_of c__law_refused_right, law_body (mg := mg) (T := (tabs K)) (m := N_law.length - 2) rfl most_ok (fun c hK hm hT her hE => by rw [← td_law]; exact law_ws law_ev (tab_ok g) c hK hm hT her hE) h⟩
end
def dd__law_pen : He.DefD := ⟨("_law_pen", none), "_law_pen", "_law_pen", defArgs s__law_pen, defBody s__law_pen, defScope s__law_pen, [], []⟩
def dd__law_draw : He.DefD := ⟨("_law_draw", none), "_law_draw", "_law_draw", defArgs s__law_draw, defBody s__law_draw, defScope s__law_draw, [], []⟩
def dd__law_pick : He.DefD := ⟨("_law_pick", none), "_law_pick", "_law_pick", defArgs s__law_pick, defBody s__law_pick, defScope s__law_pick, [], []⟩
def dd__law_row : He.DefD := ⟨("_law_row", none), "_law_row", "_law_row", defArgs s__law_row, defBody s__law_row, defScope s__law_row, [], []⟩
def dd__law_sum : He.DefD := ⟨("_law_sum", none), "_law_sum", "_law_sum", defArgs s__law_sum, defBody s__law_sum, defScope s__law_sum, [], []⟩
def dd_is_integer : He.DefD := ⟨("is_integer", none), "is_integer", "is_integer", defArgs s_is_integer, defBody s_is_integer, defScope s_is_integer, [], []⟩
def dd_is_between : He.DefD := ⟨("is_between", none), "is_between", "is_between", defArgs s_is_between, defBody s_is_between, defScope s_is_between, [], []⟩
def dd_is_bit : He.DefD := ⟨("is_bit", none), "is_bit", "is_bit", defArgs s_is_bit, defBody s_is_bit, defScope s_is_bit, [], []⟩
def dd_is_bits : He.DefD := ⟨("is_bits", none), "is_bits", "is_bits", defArgs s_is_bits, defBody s_is_bits, defScope s_is_bits, [], []⟩
def dd_number_of : He.DefD := ⟨("number_of", none), "number_of", "number_of", defArgs s_number_of, defBody s_number_of, defScope s_number_of, [], []⟩
def dd_bits_of : He.DefD := ⟨("bits_of", none), "bits_of", "bits_of", defArgs s_bits_of, defBody s_bits_of, defScope s_bits_of, [], []⟩
def dd__law_heard : He.DefD := ⟨("_law_heard", none), "_law_heard", "_law_heard", defArgs s__law_heard, defBody s__law_heard, defScope s__law_heard, [], []⟩
def dd__law_refused_right : He.DefD := ⟨("_law_refused_right", none), "_law_refused_right", "_law_refused_right", defArgs s__law_refused_right, defBody s__law_refused_right, defScope s__law_refused_right, [], []⟩
def dd_law : He.DefD := ⟨("law", none), "law", "law", defArgs s_law, defBody s_law, defScope s_law, [], []⟩
def fnL : List He.DefD := [dd__law_pen, dd__law_draw, dd__law_pick, dd__law_row, dd__law_sum, dd_is_integer, dd_is_between, dd_is_bit, dd_is_bits, dd_number_of, dd_bits_of, dd__law_heard, dd__law_refused_right, dd_law]
def faL : List He.Fa := [.glo "_law_pen", .glo "_law_draw", .glo "_law_pick", .glo "_law_row", .glo "_law_sum", .glo "is_integer", .glo "is_between", .glo "is_bit", .glo "is_bits", .glo "number_of", .glo "bits_of", .glo "_law_heard", .glo "_law_refused_right", .glo "law", .free "abs", .free "all", .free "bool", .free "int", .free "isinstance", .free "len", .free "list", .free "range", .free "repr", .free "tuple", .int "MOST_WIDTH" 64, .glo "InvalidBits", .glo "PathError", .free "super"]
abbrev si_InvalidBits : Stmt := inClass (top 2) 0
theorem tx_InvalidBits : SuTx si_InvalidBits "value" where
  body := ⟨_, _, _, _, _, _, _, _, _, _, rfl, fun env he => ⟨_, rfl⟩, fun env he => rfl⟩
  par := ⟨_, rfl, rfl⟩
  kind := rfl
  co := rfl
  gen := rfl
  nc := by decide +kernel
  n1 := by decide +kernel
  n2 := by decide +kernel
  n3 := by decide +kernel
  n4 := by decide +kernel
  ne := by decide
  db := by decide
  bnd := fun _ _ _ _ _ _ _ _ _ _ _ => .of_eq rfl
def suL : List Str := ["InvalidBits"]
def svL : List SuW := [suV "InvalidBits.__init__" si_InvalidBits]
def tfL : List He.Defn := [("_law_refused_right", none)]
def exL (K : PySem.W.Frag) : Bool := decide ((tfL.map fun p => (He.cT K p).2).Nodup) && (suB PySem.Challenge.pw_pathbits_k03_whole_numbers_and_bits.main.file K "InvalidBits" "value" && ((K.lookup sysModules).isSome && (ecB K (He.ga K "InvalidBits") && (He.eqO (PySem.W.findIn K (.ref (He.ga K "InvalidBits")) "value") (some none) && (decide (PySem.W.kitOne K (.ref (He.ga K "InvalidBits")) (.ref (He.ga K "InvalidBits")) = some true) && (decide (PySem.W.exmOne K (.ref (He.ga K "InvalidBits")) (.ref (He.ga K "PathError")) = some true)))))))
abbrev RR : PySem.W.OpenRow := PySem.W.OpenLaw.row PySem.Challenge.rw_pathbits_k03_whole_numbers_and_bits
abbrev hkL : PySem.W.Hook := hookU 4 faL fnL suL svL tfL exL
def obL (s : PySem.W.SharedT) : AlU := obsU 4 faL fnL suL tfL exL (HandSHeadRun.getT s)
theorem obL_eq (s : PySem.W.SharedT) : obL s = hkL.obs s.abs := obsU_eq (HandSHeadRun.getT_eq s)
theorem run (w : World) : HandSHeadRun.RunEq RR (PySem.W.view RR.prog [19]) hkL obL 4000 ["PathError", "InvalidBits", "MOST_WIDTH", "is_integer", "is_between", "is_bit", "is_bits", "bits_of", "number_of", "_law_pen", "_law_draw", "_law_pick", "_law_row", "_law_sum", "_law_heard", "_law_refused_right"] w := by
  intro os
  kernel_rfl
theorem facts {w : World} {K : PySem.W.Frag} {h : Heap} {mg : Str → Option Value} {f : Addr} (X : K.In h) (G : h.Ns mainGlobals mg) (hfa : mg ("law" : Str) = some (.ref f)) (c : SaysU faL fnL suL svL tfL exL h K) :
    ∃ fd : FuncData, (∀ (s : Shared) (v : Value), BindsTo s fd ⟨[v], []⟩ [("_law_script", v)]) ∧ ∀ base : Heap, K.In base → base.Ns mainGlobals mg → (∀ p ∈ tfL.map (He.cT K), LamX.TabB base mg p.1 p.2) → FnG true (PySem.Challenge.rw_pathbits_k03_whole_numbers_and_bits).prog w K mg base CX0 10 f fd ["_law_script"] (spLaw K (tabs K)) := by
  have Bn := c.more
  unfold exL at Bn
  obtain ⟨bn, B0⟩ := He.ba Bn
  have hnd : ((tabs K).map (·.1)).Nodup := by simpa [tabs, tfL] using of_decide_eq_true bn
  obtain ⟨b0, B1⟩ := He.ba B0
  obtain ⟨b1, B2⟩ := He.ba B1
  obtain ⟨b2, B3⟩ := He.ba B2
  obtain ⟨b3, B4⟩ := He.ba B3
  obtain ⟨b4, B5⟩ := He.ba B4
  have b5 := B5
  have g : Glb (PySem.Challenge.rw_pathbits_k03_whole_numbers_and_bits).prog K mg := ⟨He.free_ok X G (c.d.fact 14 (f := .free "abs") rfl),
    He.free_ok X G (c.d.fact 15 (f := .free "all") rfl),
    He.free_ok X G (c.d.fact 16 (f := .free "bool") rfl),
    He.free_ok X G (c.d.fact 17 (f := .free "int") rfl),
    He.free_ok X G (c.d.fact 18 (f := .free "isinstance") rfl),
    He.free_ok X G (c.d.fact 19 (f := .free "len") rfl),
    He.free_ok X G (c.d.fact 20 (f := .free "list") rfl),
    He.free_ok X G (c.d.fact 21 (f := .free "range") rfl),
    He.free_ok X G (c.d.fact 22 (f := .free "repr") rfl),
    He.free_ok X G (c.d.fact 23 (f := .free "tuple") rfl),
    (let ⟨t, e⟩ := He.int_ok X G (c.d.fact 24 (f := .int "MOST_WIDTH" 64) rfl); ⟨.int 64 t, e, ⟨t, rfl⟩⟩),
    He.glo_ok X G (c.d.fact 25 (f := .glo "InvalidBits") rfl),
    He.glo_ok X G (c.d.fact 26 (f := .glo "PathError") rfl),
    supT_of b0 (c.sup 0 rfl rfl) (tx_InvalidBits) (He.free_ok X G (c.d.fact 27 (f := .free "super") rfl)) rfl,
    Option.isSome_iff_exists.mp b1,
    b2,
    He.eqO_ok b3,
    of_decide_eq_true b4,
    of_decide_eq_true b5⟩
  obtain ⟨fd__law_pen, F__law_pen⟩ := c.d.def_ 0 (d := dd__law_pen) rfl
  have m__law_pen := He.glo_ok X G (c.d.fact 0 (f := .glo "_law_pen") rfl)
  obtain ⟨fd__law_draw, F__law_draw⟩ := c.d.def_ 1 (d := dd__law_draw) rfl
  have m__law_draw := He.glo_ok X G (c.d.fact 1 (f := .glo "_law_draw") rfl)
  obtain ⟨fd__law_pick, F__law_pick⟩ := c.d.def_ 2 (d := dd__law_pick) rfl
  have m__law_pick := He.glo_ok X G (c.d.fact 2 (f := .glo "_law_pick") rfl)
  obtain ⟨fd__law_row, F__law_row⟩ := c.d.def_ 3 (d := dd__law_row) rfl
  have m__law_row := He.glo_ok X G (c.d.fact 3 (f := .glo "_law_row") rfl)
  obtain ⟨fd__law_sum, F__law_sum⟩ := c.d.def_ 4 (d := dd__law_sum) rfl
  have m__law_sum := He.glo_ok X G (c.d.fact 4 (f := .glo "_law_sum") rfl)
  obtain ⟨fd_is_integer, F_is_integer⟩ := c.d.def_ 5 (d := dd_is_integer) rfl
  have m_is_integer := He.glo_ok X G (c.d.fact 5 (f := .glo "is_integer") rfl)
  obtain ⟨fd_is_between, F_is_between⟩ := c.d.def_ 6 (d := dd_is_between) rfl
  have m_is_between := He.glo_ok X G (c.d.fact 6 (f := .glo "is_between") rfl)
  obtain ⟨fd_is_bit, F_is_bit⟩ := c.d.def_ 7 (d := dd_is_bit) rfl
  have m_is_bit := He.glo_ok X G (c.d.fact 7 (f := .glo "is_bit") rfl)
  obtain ⟨fd_is_bits, F_is_bits⟩ := c.d.def_ 8 (d := dd_is_bits) rfl
  have m_is_bits := He.glo_ok X G (c.d.fact 8 (f := .glo "is_bits") rfl)
  obtain ⟨fd_number_of, F_number_of⟩ := c.d.def_ 9 (d := dd_number_of) rfl
  have m_number_of := He.glo_ok X G (c.d.fact 9 (f := .glo "number_of") rfl)
  obtain ⟨fd_bits_of, F_bits_of⟩ := c.d.def_ 10 (d := dd_bits_of) rfl
  have m_bits_of := He.glo_ok X G (c.d.fact 10 (f := .glo "bits_of") rfl)
  obtain ⟨fd__law_heard, F__law_heard⟩ := c.d.def_ 11 (d := dd__law_heard) rfl
  have m__law_heard := He.glo_ok X G (c.d.fact 11 (f := .glo "_law_heard") rfl)
  obtain ⟨fd__law_refused_right, F__law_refused_right⟩ := c.d.def_ 12 (d := dd__law_refused_right) rfl
  have m__law_refused_right := He.glo_ok X G (c.d.fact 12 (f := .glo "_law_refused_right") rfl)
  obtain ⟨fd_law, F_law⟩ := c.d.def_ 13 (d := dd_law) rfl
  have m_law := He.glo_ok X G (c.d.fact 13 (f := .glo "law") rfl)
  have e := hfa.symm.trans m_law
  cases e
  have b := FunD.bindsA (ps := ["_law_script"]) F_law fun _ _ _ _ _ _ us hl => match us, hl with | [_], _ => rfl
  have hb__law_heard : Binds K fd__law_heard ["_law_ask"] [] := FunD.bindsN F__law_heard fun _ _ _ _ _ _ us hl => match us, hl with | [_], _ => rfl
  refine ⟨fd_law, fun s v => b s [v] rfl, fun base _ _ hTB => ?_⟩
  have k__law_pen := cal__law_pen (P := (PySem.Challenge.rw_pathbits_k03_whole_numbers_and_bits).prog) (w := w) (base := base) g m__law_pen F__law_pen  
  have k__law_draw := cal__law_draw (P := (PySem.Challenge.rw_pathbits_k03_whole_numbers_and_bits).prog) (w := w) (base := base) g m__law_draw F__law_draw  
  have k__law_pick := cal__law_pick (P := (PySem.Challenge.rw_pathbits_k03_whole_numbers_and_bits).prog) (w := w) (base := base) g m__law_pick F__law_pick  k__law_draw
  have k__law_row := cal__law_row (P := (PySem.Challenge.rw_pathbits_k03_whole_numbers_and_bits).prog) (w := w) (base := base) g m__law_row F__law_row  k__law_draw
  have k__law_sum := cal__law_sum (P := (PySem.Challenge.rw_pathbits_k03_whole_numbers_and_bits).prog) (w := w) (base := base) g m__law_sum F__law_sum  
  have k_is_integer := cal_is_integer (P := (PySem.Challenge.rw_pathbits_k03_whole_numbers_and_bits).prog) (w := w) (base := base) g m_is_integer F_is_integer  
  have k_is_between := cal_is_between (P := (PySem.Challenge.rw_pathbits_k03_whole_numbers_and_bits).prog) (w := w) (base := base) g m_is_between F_is_between  k_is_integer
  have k_is_bit := cal_is_bit (P := (PySem.Challenge.rw_pathbits_k03_whole_numbers_and_bits).prog) (w := w) (base := base) g m_is_bit F_is_bit  k_is_between
  have k_is_bits := cal_is_bits (P := (PySem.Challenge.rw_pathbits_k03_whole_numbers_and_bits).prog) (w := w) (base := base) g m_is_bits F_is_bits  k_is_bit
  have k_number_of := cal_number_of (P := (PySem.Challenge.rw_pathbits_k03_whole_numbers_and_bits).prog) (w := w) (base := base) g m_number_of F_number_of  k_is_bits
  have k_bits_of := cal_bits_of (P := (PySem.Challenge.rw_pathbits_k03_whole_numbers_and_bits).prog) (w := w) (base := base) g m_bits_of F_bits_of  k_is_between k_is_integer
  have k__law_refused_right := cal__law_refused_right (P := (PySem.Challenge.rw_pathbits_k03_whole_numbers_and_bits).prog) (w := w) (base := base) g m__law_refused_right F__law_refused_right F__law_heard m__law_heard hb__law_heard (hTB _ (List.mem_map_of_mem (by decide))) hnd rfl k__law_pick k_bits_of k_number_of
  exact ok_law g F_law  k__law_pen k__law_pick k__law_draw k__law_row k__law_sum k_number_of k_bits_of k__law_refused_right
end Pb.K03
open PySem PySem.W PySem.Calls PyProof.Rows
theorem PySem.Challenge.cw_pathbits_k03_whole_numbers_and_bits_holds : PySem.Challenge.rw_pathbits_k03_whole_numbers_and_bits.Holds := by
  w_on; o_law
  refine HandSHeadRun.head_any (r := OpenLaw.row PySem.Challenge.rw_pathbits_k03_whole_numbers_and_bits) (q := view (OpenLaw.row PySem.Challenge.rw_pathbits_k03_whole_numbers_and_bits).prog [19]) (H := Pb.K03.hkL) (ob := Pb.K03.obL) (M := 4000) (loose := ["PathError", "InvalidBits", "MOST_WIDTH", "is_integer", "is_between", "is_bit", "is_bits", "bits_of", "number_of", "_law_pen", "_law_draw", "_law_pick", "_law_row", "_law_sum", "_law_heard", "_law_refused_right"]) (d := HandSHeadRun.topDef (OpenLaw.row PySem.Challenge.rw_pathbits_k03_whole_numbers_and_bits).prog 19) (kwd := []) Pb.K03.obL_eq
    (by kernel_rfl) (fun s => by kernel_rfl) Pb.K03.run (by kernel_rfl) (by kernel_rfl) (by kernel_rfl) (by rfl) (by first | assumption | decide +kernel) (by decide +kernel) ⟨rfl, rfl, rfl, rfl, rfl, by decide +kernel⟩ ?hw ?hc
  case hw => w_witness2
  case hc =>
    refine Pb.walkGT (l := PySem.Challenge.rw_pathbits_k03_whole_numbers_and_bits) (n := 63) (k := 10) (x := "_law_script") (CX := fun _ => L2.CX0) rfl (by decide) (by kernel_rfl) ⟨⟨rfl, by decide, by decide⟩, fun _ => rfl⟩ ?F (fun _ _ _ _ _ z => z)
    intro w mg fa h Y G hmg0
    obtain ⟨K, KX, c⟩ := Y
    have hmg : mg ("law" : PySem.Str) = some (.ref fa) := by
      have e : (HandSHeadRun.topDef (OpenLaw.row PySem.Challenge.rw_pathbits_k03_whole_numbers_and_bits).prog 19).name = ("law" : PySem.Str) := by kernel_rfl
      rw [← e]
      exact hmg0
    obtain ⟨fd, hb, hF⟩ := Pb.K03.facts (w := w) KX G hmg c
    have per : ∀ q ∈ Pb.K03.tfL.map (He.cT K), ∃ p ∈ Pb.K03.tfL, He.cT K p = q := fun q hq => List.mem_map.mp hq
    refine ⟨K, fd, Pb.spLaw K (Pb.K03.tabs K), Pb.K03.tfL.map (He.cT K), KX, fun q hq => ?_, fun q hq => ?_, fun q hq => ?_, hb, fun H a ns hl hT hS => ⟨a, ns, rfl, hS, hl, ?_, fun _ => rfl⟩, hF⟩
    · obtain ⟨p, hp, rfl⟩ := per q hq
      exact c.empty p hp
    · obtain ⟨p, hp, rfl⟩ := per q hq
      exact c.out p hp
    · obtain ⟨p, hp, rfl⟩ := per q hq
      exact PySem.W.codeHd_of_K KX (c.hd p hp)
    · intro q hq
      have hq' : ∃ p ∈ Pb.K03.tfL, (He.cT K p).2 = q.1 := by
        simp only [Pb.K03.tabs, List.mem_cons, List.mem_nil_iff, or_false] at hq
        rcases hq with rfl
        · exact ⟨("_law_refused_right", none), by decide, rfl⟩
      obtain ⟨p, hp, e⟩ := hq'
      exact LamX.TabS.nil (by rw [← e]; exact hT _ (List.mem_map_of_mem hp))
