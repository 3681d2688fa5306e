import PyProof.Rows.All
import Wide.All
import OpenK.AllK
import Wide.FinOn
import KE.KStateDown
import HandS.ForMost
import HandS.Flow
import HandS.Exc
import HandS.IsInst
import HandS.Star
import HandS.Defaults
import HandS.Wide
import HandS.WideBits
import HandS.EndBits
import HandS.HeadHook1
import HandS.HeadHook2
import HandS.HeadEnd
import HandS.Head2
import HandS.ClsMeth
import HandS.FStr
import HandS.Walk
import PyProof.ReprRoads
import PyProof.ReprNest
import PyProof.ReprDict
import HandS.FromBytesMap
import HandS.Ends
import KE.KExcSuper
import KE.KSuper
import HandS.ExcInit
import HandS.ExcSuper
import HandS.ExcIs
import HandS.ExcField
import HandS.Small
import HandS.StrMore
import HandS.Style
import HandS.DeepEq
import PyProof.NeKinds
import PySem.Challenge.RW_aboveless_k21_parts_of_texts
set_option Elab.async false
set_option linter.all false
set_option maxRecDepth 100000
set_option maxHeartbeats 4000000
/-! AbA: defs with a guard's flag, by name. -/
namespace Ab
open PySem PySem.Spec PyProof.Rows L2
/-- no repr runs around (asked only where g is true) -/
def Gd (g : Bool) (A : Around) : Prop := g = true → A.guards = some []
theorem gd_deeper {g : Bool} {A : Around} (h : Gd g A) (env : Env) : Gd g (A.deeper env) := fun e => by
  have q := h e
  simp [Around.deeper, q]
theorem gd_false {A : Around} : Gd false A := fun e => by cases e
theorem gd_up {g : Bool} {A : Around} (h : A.guards = some []) : Gd g A := fun _ => h
/-- a def's promise: as FnOk, with the flag -/
structure Fq (g : Bool) (P : Program) (w : World) (K : PySem.W.Frag) (mg : Str → Option Value) (base : Heap)
    (CX : CXT) (k : Nat) (f : Addr) (fd : FuncData) (ps : List Str) (sp : Sp) : Prop where
  len : ∀ vs H Q E, sp vs H Q E → vs.length = ps.length
  go : ∀ (A : Around) (outer : List Env) (s : Shared) (H : Hp) (args : Args) (us : List Value) (vs : List V) (Q : VK) (E : XK),
    Gd g A → Room k A → Env0 P w K mg base A outer s H → BindsTo s fd args (ps.zip us) → Vals vs us → sp vs H Q E →
      codeAny (model P w) A (.call (.ref f) args) (CR CX outer P w H s Q E) s
theorem Fq.of {P : Program} {w : World} {K : PySem.W.Frag} {mg : Str → Option Value} {base : Heap} {CX : CXT} {k : Nat}
    {f : Addr} {fd : FuncData} {ps : List Str} {sp : Sp} (F : FnOk P w K mg base CX k f fd ps sp) :
    Fq false P w K mg base CX k f fd ps sp :=
  ⟨F.len, fun A outer s H args us vs Q E _ hr => F.run A outer s H args us vs Q E hr⟩
section
variable {g : Bool} {P : Program} {w : World} {K : PySem.W.Frag} {mg : Str → Option Value} {base : Heap} {CX : CXT} {k : Nat}
  {f : Addr} {fd : FuncData} {ps N : List Str} {sp : Sp} {x qual : Str} {params : Arguments} {body : List Stmt} {scope : Scope}
  {dvs : List V} {kws : List (Str × V)}
/-- a def by its body -/
theorem Fq.mk' (F : FunD K x qual params body scope dvs kws f fd) (S : FnScope N ps scope)
    (len : ∀ vs H Q E, sp vs H Q E → vs.length = ps.length)
    (hbody : ∀ (cdv : Value) (A : Around) (outer : List Env) (s : Shared) (H : Hp) (vs : List V) (Q : VK) (E : XK),
      Gd g (A.deeper (envOfC qual scope s.heap.objs.size f cdv)) →
      Room k (A.deeper (envOfC qual scope s.heap.objs.size f cdv)) → sp vs H Q E →
      ∃ t, PSs (cxOf CX P w K mg base N qual scope f cdv A outer s H E) body t ∧
        t { nx := fun _ H' => Q .non H', rt := Q } (start N vs) H) :
    Fq g P w K mg base CX (k + 1) f fd ps sp := by
  obtain ⟨oc, od, dV, kV, doc, pm, an, cdv, ct, osl, rfl, lk, hcd, _, _⟩ := F.ex
  refine ⟨len, fun A outer s H args us vs Q E hg hr e0 hb r hsp => ?_⟩
  have KX : K.In s.heap := e0.mod.kin.keeps fun b o e => (e0.bs b o e).1
  have lim : s.heap.NoLimit := e0.mod.nolimit.keeps fun b o e => (e0.bs b o e).1
  have kinds : ∀ y ∈ ps.zip us, scope.names.lookup y.1 = some .local ∨
      (scope.names.lookup y.1 = some .cell ∧ ((cellsFrom (s.heap.objs.size + 1) scope.names []).lookup y.1).isSome = true) := by
    rintro ⟨n, v⟩ hy
    rcases S.par n (List.of_mem_zip hy).1 with q | q
    · exact Or.inl q
    · exact Or.inr ⟨q, PySem.W.cellsFrom_some _ _ _ (Or.inl q)⟩
  refine codeAny_call_function hr.depth (KX _ _ lk) rfl S.co S.gen rfl (PySem.W.codeRec_of KX hcd) (hb _ _ _ _ ?_)
  refine wpAny_newFunctionEnv_cells S.kind kinds fun env he s1 x => ?_
  subst he
  refine ⟨lim.keeps x.toInCall.keep, codeAny_func ?_⟩
  obtain ⟨t, ht, hq⟩ := hbody cdv A outer s H vs Q E (gd_deeper hg _) (hr.deeper _) hsp
  have I := inv_start (CX := CX) (E := E) (cd := cdv) (f := f) (qual := qual) S hr.hd e0 (len _ _ _ _ hsp) r x
  refine wpAny_mono (ht.run [] s1 (start N vs) H _ I hq) (fun fl s' hs => ?_) fun e s' hs => hs
  cases fl with
  | ret u =>
    obtain ⟨v, σ', H', J, rv, q⟩ := hs
    exact ⟨v, H', J.os, J.bare, J.base, J.hok, rv, q⟩
  | next =>
    obtain ⟨σ', H', J, q⟩ := hs
    exact ⟨V.non, H', J.os, J.bare, J.base, J.hok, rfl, q⟩
  | brk => obtain ⟨_, _, _, q⟩ := hs; exact q.elim
  | cont => obtain ⟨_, _, _, q⟩ := hs; exact q.elim
end
/-! ### how values bind -/
def Bw (K : PySem.W.Frag) (fd : FuncData) (ps : List Str) (n : Nat) (ks : List Str) (gV : List V → List V → List V) : Prop :=
  ∀ (s : Shared) (us ws : List Value), K.In s.heap → us.length = n → ws.length = ks.length →
    ∃ zs, BindsTo s fd ⟨us, ks.zip ws⟩ (ps.zip zs) ∧ ∀ vs ys, Vals vs us → Vals ys ws → Vals (gV vs ys) zs
abbrev gPos : List V → List V → List V := fun vs _ => vs
section
variable {K : PySem.W.Frag} {x qual : Str} {params : Arguments} {body : List Stmt} {scope : Scope} {kws : List (Str × V)} {f : Addr} {fd : FuncData} {ps : List Str}
/-- every parameter by its place -/
theorem bw_pos (F : FunD K x qual params body scope [] kws f fd) (n : Nat) (hn : n = ps.length)
    (h : ∀ (kV doc pm : Value) (an : Option Addr) (cdv ct : Value) (us : List Value), us.length = ps.length →
      bindArgs (PySem.W.fnOf x qual params body scope .none kV doc pm an cdv ct) ⟨us, []⟩ = pure (ps.zip us)) : Bw K fd ps n [] gPos := by
  intro s us ws X l1 l2
  have e : ws = [] := List.length_eq_zero_iff.mp l2
  subst e
  exact ⟨us, F.bindsA h s us (l1.trans hn), fun vs ys r _ => r⟩
/-- by names too, no default is looked up -/
theorem bw_kw (F : FunD K x qual params body scope [] kws f fd) (n : Nat) (ks : List Str) (g : {α : Type} → List α → List α → List α)
    (h : ∀ (kV doc pm : Value) (an : Option Addr) (cdv ct : Value) (us ws : List Value), us.length = n → ws.length = ks.length →
      bindArgs (PySem.W.fnOf x qual params body scope .none kV doc pm an cdv ct) ⟨us, ks.zip ws⟩ = pure (ps.zip (g us ws)))
    (hrel : ∀ {vs ys : List V} {us ws : List Value}, us.length = n → ws.length = ks.length → Vals vs us → Vals ys ws → Vals (g vs ys) (g us ws)) : Bw K fd ps n ks g := by
  intro s us ws X l1 l2
  obtain ⟨oc, od, dV, kV, doc, pm, an, cdv, ct, osl, rfl, lk, hcd, hD, hK⟩ := F.ex
  rcases hD with ⟨_, rfl⟩ | ⟨e, _⟩
  · exact ⟨g us ws, .of_eq (h kV doc pm an cdv ct us ws l1 l2), fun vs ys r1 r2 => hrel l1 l2 r1 r2⟩
  · exact absurd rfl e
theorem bw_kbn {n : Nat} {ks : List Str} {g : List Value → List Value → List Value} {gV : List V → List V → List V} (h : KBn K fd ps n ks g gV) : Bw K fd ps n ks gV :=
  fun s us ws X l1 l2 => ⟨g us ws, h.to s us ws X l1 l2, fun _ _ r1 r2 => h.rel r1 r2⟩
/-- by place, one keyword-only parameter left to its default -/
theorem bw_d1 {y : Str} {v : V} (F : FunD K x qual params body scope [] [(y, v)] f fd) (n : Nat) (hn : n + 1 = ps.length)
    (h : ∀ (D : Addr) (doc pm : Value) (an : Option Addr) (cdv ct : Value) (us : List Value) (z : Value), us.length = n →
      KwChain D [(y, z)] (bindArgs (PySem.W.fnOf x qual params body scope .none (.ref D) doc pm an cdv ct) ⟨us, []⟩) (ps.zip (us ++ [z]))) :
    Bw K fd ps n [] (fun vs _ => vs ++ [v]) := by
  obtain ⟨ds, r, hb⟩ := FunD.binds0 (ps := ps) F n (by simp) (by simpa using hn) fun D doc pm an cdv ct us ks l1 l2 => by
    match ks, l2 with
    | [z], _ => exact h D doc pm an cdv ct us z l1
  intro s us ws X l1 l2
  have e : ws = [] := List.length_eq_zero_iff.mp l2
  subst e
  refine ⟨us ++ ds, hb s us X ?_, fun vs ys q _ => q.append r⟩
  have e := r.length
  rw [List.length_append, l1, ← e]
  exact hn
end
/-! ### a def by its datum -/
/-- the def d keeps sp -/
def Fo (g : Bool) (P : Program) (w : World) (K : PySem.W.Frag) (mg : Str → Option Value) (base : Heap)
    (CX : CXT) (k : Nat) (d : He.DefD) (ps : List Str) (sp : Sp) : Prop :=
  ∃ fd, Fq g P w K mg base CX k (He.fAd K d.at_) fd ps sp ∧
    FunD K d.name d.qual d.params d.body d.scope (d.dvs K) (d.kws K) (He.fAd K d.at_) fd
section
variable {X : Cx} {g : Bool} {CX : CXT} {k n : Nat} {d : He.DefD} {ps ks : List Str} {sp : Sp} {E : XK} {x : Str} {p pos : Pos} {e : Expr}
  {es : List Expr} {kws : List Keyword} {t tk : TA} {gV : List V → List V → List V}
theorem run_fq {f : Addr} {fd : FuncData} {pins : List (Addr × Obj)} {σ : L2.St} {H : Hp} {s : Shared} {Q : VK} {args : Args} {us : List Value} {vs : List V}
    (F : Fq g X.prog X.w X.K X.mg X.base CX k f fd ps sp) (hg : Gd g X.A) (hr : Room k X.A) (hb : BindsTo s fd args (ps.zip us))
    (hx : Passes CX X E) (I : Inv X pins σ H s) (r : Vals vs us) (h : sp vs H Q E) :
    codeAny (model X.prog X.w) X.A (.call (.ref f) args) (fun r s' => match r with
      | .ok (.ret v) => EP X pins σ Q v s' | .ok _ => False | .error e => X.xe e s') s := by
  refine codeAny_mono (F.go X.A X.stack s H args us vs Q E hg hr I.env0 hb r h) fun r s' hq => ?_
  cases r with
  | error e => exact hx pins σ H s e s' I hq
  | ok fl =>
    cases fl with
    | ret u => exact I.after hq
    | _ => exact hq.elim
/-- how a call's reading goes: n values by place, m by name -/
def tO (n m : Nat) (sp : Sp) (gV : List V → List V → List V) (E : XK) (t tk : TA) : TE := fun σ H Q => t σ H fun vs H1 => tk σ H1 fun zs H2 =>
  vs.length = n ∧ zs.length = m ∧ sp (gV vs zs) H2 Q E
/-- x(e, ..) -/
theorem pe_o (F : Fo g X.prog X.w X.K X.mg X.base CX k d ps sp) (hm : X.mg x = some (.ref (He.fAd X.K d.at_)))
    (hb : ∀ fd, FunD X.K d.name d.qual d.params d.body d.scope (d.dvs X.K) (d.kws X.K) (He.fAd X.K d.at_) fd → Bw X.K fd ps n [] gV)
    (hg : Gd g X.A) (hr : Room k X.A) (gl : Gl X x) (hx : Passes CX X E)
    (ha : PA X (e :: es) t) (hdb : (x == ("__debug__" : Str)) = false := by decide)
    (he : starEach (e :: es) X.env = (false, eval e X.env) :: starEach es X.env := by rfl)
    (hpl : (backTo pos (starEach es X.env)).any (·.1) = false := by rfl) :
    PE X (.Call (.Name x p) (e :: es) [] pos) (tO n 0 sp gV E t tNil) := by
  obtain ⟨fd, F1, FD⟩ := F
  refine ⟨fun pins s σ H Q I h => wpAny_Call_Name_kw (ld_glob I gl hm ?_ hdb)⟩
  refine PySem.W.callWith_K (h₀ := X.base) I.ok.mod.kin FD.kp (thn (ha.run pos pins s σ H _ I h) fun us s1 q => ?_) he hpl
  obtain ⟨vs, H1, I1, r, l1, l2, q⟩ := q
  obtain ⟨zs, hB, hV⟩ := hb fd FD s1 us [] I1.kIn (r.length.symm.trans l1) rfl
  exact ⟨I1.kIn, wpAny_call (run_fq F1 hg hr hB hx I1 (hV vs [] r .nil) q)⟩
theorem pe_o0 (F : Fo g X.prog X.w X.K X.mg X.base CX k d ps sp) (hm : X.mg x = some (.ref (He.fAd X.K d.at_)))
    (hb : ∀ fd, FunD X.K d.name d.qual d.params d.body d.scope (d.dvs X.K) (d.kws X.K) (He.fAd X.K d.at_) fd → Bw X.K fd ps 0 [] gV)
    (hg : Gd g X.A) (hr : Room k X.A) (gl : Gl X x) (hx : Passes CX X E)
    (hdb : (x == ("__debug__" : Str)) = false := by decide) : PE X (.Call (.Name x p) [] [] pos) (tO 0 0 sp gV E tNil tNil) := by
  obtain ⟨fd, F1, FD⟩ := F
  refine ⟨fun pins s σ H Q I h => wpAny_Call_Name_kw (ld_glob I gl hm ?_ hdb)⟩
  obtain ⟨l1, l2, q⟩ := h
  obtain ⟨zs, hB, hV⟩ := hb fd FD s [] [] I.kIn rfl rfl
  exact PySem.W.callWith_K0 I.kIn FD.kp (wpAny_call (run_fq F1 hg hr hB hx I (hV [] [] .nil .nil) q))
/-- x(e, .., k = v, ..) -/
theorem pe_ok (F : Fo g X.prog X.w X.K X.mg X.base CX k d ps sp) (hm : X.mg x = some (.ref (He.fAd X.K d.at_)))
    (hb : ∀ fd, FunD X.K d.name d.qual d.params d.body d.scope (d.dvs X.K) (d.kws X.K) (He.fAd X.K d.at_) fd → Bw X.K fd ps n ks gV)
    (hg : Gd g X.A) (hr : Room k X.A) (gl : Gl X x) (hx : Passes CX X E)
    (ha : PA X (e :: es) t) (hkw : PK X kws tk) (hall : (backToKw pos (keywordEach kws X.env)).all (·.1.isSome) = true := by rfl)
    (hks : (backToKw pos (keywordEach kws X.env)).filterMap (·.1) = ks := by rfl)
    (hdb : (x == ("__debug__" : Str)) = false := by decide) (he : starEach (e :: es) X.env = (false, eval e X.env) :: starEach es X.env := by rfl)
    (hpl : ((backTo pos (starEach (e :: es) X.env)).any (·.1) || (backToKw pos (keywordEach kws X.env)).any (·.1.isNone)) = false := by rfl) :
    PE X (.Call (.Name x p) (e :: es) kws pos) (tO n ks.length sp gV E t tk) := by
  obtain ⟨fd, F1, FD⟩ := F
  refine ⟨fun pins s σ H Q I h => wpAny_Call_Name_kw (ld_glob I gl hm ?_ hdb)⟩
  refine PySem.W.callWith_KW (h₀ := X.base) I.ok.mod.kin FD.kp hall (thn (ha.run pos pins s σ H _ I h) fun us s1 q => ?_) hpl he
  obtain ⟨vs, H1, I1, r, q⟩ := q
  refine thn (hkw.run pos pins s1 σ H1 _ I1 q) fun ws s2 q2 => ?_
  obtain ⟨ys, H2, I2, rz, l1, l2, q3⟩ := q2
  rw [hks]
  obtain ⟨zs, hB, hV⟩ := hb fd FD s2 us ws I2.kIn (r.length.symm.trans l1) (rz.length.symm.trans l2)
  exact ⟨I2.kIn, wpAny_call (run_fq F1 hg hr hB hx I2 (hV vs ys r rz) q3)⟩
/-- x(k = v, ..) -/
theorem pe_ok0 (F : Fo g X.prog X.w X.K X.mg X.base CX k d ps sp) (hm : X.mg x = some (.ref (He.fAd X.K d.at_)))
    (hb : ∀ fd, FunD X.K d.name d.qual d.params d.body d.scope (d.dvs X.K) (d.kws X.K) (He.fAd X.K d.at_) fd → Bw X.K fd ps 0 ks gV)
    (hg : Gd g X.A) (hr : Room k X.A) (gl : Gl X x) (hx : Passes CX X E)
    (hkw : PK X kws tk) (hall : (backToKw pos (keywordEach kws X.env)).all (·.1.isSome) = true := by rfl)
    (hks : (backToKw pos (keywordEach kws X.env)).filterMap (·.1) = ks := by rfl)
    (hdb : (x == ("__debug__" : Str)) = false := by decide)
    (hpl : ((backTo pos (starEach [] X.env)).any (·.1) || (backToKw pos (keywordEach kws X.env)).any (·.1.isNone)) = false := by rfl) :
    PE X (.Call (.Name x p) [] kws pos) (tO 0 ks.length sp gV E tNil tk) := by
  obtain ⟨fd, F1, FD⟩ := F
  refine ⟨fun pins s σ H Q I h => wpAny_Call_Name_kw (ld_glob I gl hm ?_ hdb)⟩
  refine PySem.W.callWith_KW0 (h₀ := X.base) I.ok.mod.kin FD.kp hall (thn (hkw.run pos pins s σ H _ I h) fun ws s2 q2 => ?_) hpl
  obtain ⟨ys, H2, I2, rz, l1, l2, q3⟩ := q2
  rw [hks]
  obtain ⟨zs, hB, hV⟩ := hb fd FD s2 [] ws I2.kIn rfl (rz.length.symm.trans l2)
  exact ⟨I2.kIn, wpAny_call (run_fq F1 hg hr hB hx I2 (hV [] ys .nil rz) q3)⟩
end
/-! ### the head's facts -/
abbrev AlX : Type := He.AlD × Bool
def obsXG (n : Nat) (fa : List He.Fa) (fn : List He.DefD) (ex : PySem.W.Frag → Bool) (g : Addr → Option Obj) : AlX :=
  (fun K => (He.obsD fa fn K, ex K)) (He.frG g (He.asD g n ++ [cStatics]))
/-- what is told of the written part -/
structure Says (fa : List He.Fa) (fn : List He.DefD) (ex : PySem.W.Frag → Bool) (K : PySem.W.Frag) : Prop where
  d : He.SaysD fa fn K
  more : ex K = true
def hookX (n : Nat) (fa : List He.Fa) (fn : List He.DefD) (ex : PySem.W.Frag → Bool) : PySem.W.Hook where
  α := AlX
  obs := fun s => obsXG n fa fn ex s.heap.get?
  val := fun _ => (He.valD fn, true)
  says := fun _ h => ∃ K : PySem.W.Frag, K.In h ∧ Says fa fn ex K
  of := fun _ _ e => ⟨_, He.frG_in, congrArg (fun z : AlX => z.1) e, congrArg (fun z : AlX => z.2) e⟩
  keeps := fun _ _ _ ⟨K, hK, c⟩ k => ⟨K, PySem.W.Frag.In.keeps hK k, c⟩
theorem obsXG_eq {n : Nat} {fa : List He.Fa} {fn : List He.DefD} {ex : PySem.W.Frag → Bool} {g : Addr → Option Obj} {s : Shared} (h : ∀ a, g a = s.heap.get? a) :
    obsXG n fa fn ex g = (hookX n fa fn ex).obs s := by
  have e : g = s.heap.get? := funext h
  rw [e]
  rfl
/-- the text's facts, with the module's names -/
structure Tx (fa : List He.Fa) (fn : List He.DefD) (ex : PySem.W.Frag → Bool) (K : PySem.W.Frag) (mg : Str → Option Value) : Prop where
  hp : ∃ h : Heap, K.In h ∧ h.Ns mainGlobals mg
  c : Says fa fn ex K
section
variable {fa : List He.Fa} {fn : List He.DefD} {ex : PySem.W.Frag → Bool} {K : PySem.W.Frag} {mg : Str → Option Value}
theorem Tx.fact (T : Tx fa fn ex K mg) (i : Nat) {f : He.Fa} (h : fa[i]? = some f := by rfl) : f.ok K = true := T.c.d.fact i h
theorem Tx.dfn (T : Tx fa fn ex K mg) (i : Nat) {d : He.DefD} (h : fn[i]? = some d := by rfl) :
    ∃ fd, FunD K d.name d.qual d.params d.body d.scope (d.dvs K) (d.kws K) (He.fAd K d.at_) fd := T.c.d.def_ i h
theorem Tx.glo (T : Tx fa fn ex K mg) (i : Nat) {x : Str} (h : fa[i]? = some (.glo x) := by rfl) : mg x = some (.ref (He.ga K x)) := by
  obtain ⟨hp, X, G⟩ := T.hp
  exact He.glo_ok X G (T.fact i h)
theorem Tx.free (T : Tx fa fn ex K mg) (i : Nat) {x : Str} (h : fa[i]? = some (.free x) := by rfl) : mg x = none := by
  obtain ⟨hp, X, G⟩ := T.hp
  exact He.free_ok X G (T.fact i h)
theorem Tx.str (T : Tx fa fn ex K mg) (i : Nat) {x z : Str} (h : fa[i]? = some (.str x z) := by rfl) : ∃ t, mg x = some (.str z t) := by
  obtain ⟨hp, X, G⟩ := T.hp
  exact He.str_ok X G (T.fact i h)
theorem Tx.int (T : Tx fa fn ex K mg) (i : Nat) {x : Str} {z : Int} (h : fa[i]? = some (.int x z) := by rfl) : ∃ t, mg x = some (.int z t) := by
  obtain ⟨hp, X, G⟩ := T.hp
  exact He.int_ok X G (T.fact i h)
end
section
variable {X : Cx} {x : Str} {pos : Pos}
theorem pe_gs {z : Str} (hg : Gl X x) (h : ∃ t, X.mg x = some (.str z t)) (hd : (x == ("__debug__" : Str)) = false := by decide) : PE X (.Name x pos) (tC (.str z)) := by
  obtain ⟨t, h⟩ := h
  exact pe_glob hg h ⟨t, rfl⟩ hd
theorem pe_gi {z : Int} (hg : Gl X x) (h : ∃ t, X.mg x = some (.int z t)) (hd : (x == ("__debug__" : Str)) = false := by decide) : PE X (.Name x pos) (tC (.int z)) := by
  obtain ⟨t, h⟩ := h
  exact pe_glob hg h ⟨t, rfl⟩ hd
theorem pe_gr {a : Addr} (hg : Gl X x) (h : X.mg x = some (.ref a)) (hd : (x == ("__debug__" : Str)) = false := by decide) : PE X (.Name x pos) (tC (.ref a)) := pe_glob hg h rfl hd
end
/-! ### C() by a positional promise of its __init__ -/
theorem pe_mk0 {X : Cx} {CX : CXT} {k : Nat} {f C : Addr} {sp : Sp} {E : XK} {x : Str} {p pos : Pos} (M : Mk X.K C f) (F : FnR X.prog X.w X.K X.mg X.base CX k f sp)
    (hr : Room (k + 1) X.A) (hg : Gl X x) (hm : X.mg x = some (.ref C)) (hx : Passes CX X E) (hdb : (x == ("__debug__" : Str)) = false := by decide) :
    PE X (.Call (.Name x p) [] [] pos) (StX.tMakeR C sp E tNil) := by
  refine ⟨fun pins s σ H Q I h => wpAny_Call_Name_kw (ld_glob I hg hm ?_ hdb)⟩
  exact PySem.W.callWith_K0 I.kIn M.kp (StX.run_makeR (us := []) M F hr hx I .nil h)
/-- def m(self, *rest) -/
theorem fn_star1 {CX : CXT} {P : Program} {w : World} {K : PySem.W.Frag} {mg : Str → Option Value} {base : Heap} {k : Nat} {f : Addr} {fd : FuncData} {N : List Str} {sp : Sp} {x qual p1 pv : Str} {params : Arguments} {body : List Stmt} {scope : Scope} {kws : List (Str × V)}
    (F : FunD K x qual params body scope [] kws f fd) (S : FnScope N [p1, pv] scope) (hCX : StX.CXUp CX)
    (h0 : ∀ (kV doc pm : Value) (an : Option Addr) (cdv ct : Value) (a : Value), bindArgs (PySem.W.fnOf x qual params body scope .none kV doc pm an cdv ct) ⟨[a], []⟩ = (newTuple [] >>= fun t => pure [(p1, a), (pv, t)]))
    (h1 : ∀ (kV doc pm : Value) (an : Option Addr) (cdv ct : Value) (a r : Value) (rs : List Value), bindArgs (PySem.W.fnOf x qual params body scope .none kV doc pm an cdv ct) ⟨a :: r :: rs, []⟩ = (newTuple (r :: rs) >>= fun t => pure [(p1, a), (pv, t)]))
    (hbody : ∀ (cdv : Value) (A : Around) (outer : List Env) (s : Shared) (H : Hp) (vs : List V) (Q : VK) (E : XK), Room k (A.deeper (envOfC qual scope s.heap.objs.size f cdv)) → sp vs H Q E →
      ∃ t, PSs (cxOf CX P w K mg base N qual scope f cdv A outer s H E) body t ∧ t { nx := fun _ H' => Q .non H', rt := Q } (start N vs) H) :
    FnR P w K mg base CX (k + 1) f (fun vs H Q E => ∃ (a : V) (rest : List V), vs = a :: rest ∧ rest.length ≤ sizeLine ∧ ∀ p, H p = none → sp [a, .ref p] (upd H p (.tup rest)) Q E) := by
  obtain ⟨oc, od, dV, kV, doc, pm, an, cdv, ct, osl, rfl, lk, hcd, hD, _⟩ := F.ex
  rcases hD with ⟨_, rfl⟩ | ⟨e, _⟩
  · refine FnR.imp (StX.fn_star (ps := [p1]) (pv := pv) (sp := sp) lk hcd S hCX (StX.bind_star1 (B := fun us => bindArgs (PySem.W.fnOf x qual params body scope .none kV doc pm an cdv ct) ⟨us, []⟩) (h0 kV doc pm an cdv ct) (h1 kV doc pm an cdv ct))
      (fun A outer s H vs Q E hr h => hbody cdv A outer s H vs Q E hr h)) fun vs H Q E h => ?_
    obtain ⟨a, rest, rfl, hz, q⟩ := h
    exact ⟨[a], rest, rfl, rfl, hz, q⟩
  · exact absurd rfl e
end Ab

set_option Elab.async false
set_option linter.all false
set_option maxRecDepth 100000
set_option maxHeartbeats 4000000
/-! AbB: frames, the drawn numbers, loops. -/
namespace Ab
open PySem PySem.Spec PyProof.Rows L2
/-- all that stands but r's object stays -/
def Fx (r : Addr) (H H' : Hp) : Prop := ∀ b o, b ≠ r → H b = some o → H' b = some o
/-- all that stands stays -/
abbrev Ex (H H' : Hp) : Prop := Same H H'
theorem Fx.refl {r : Addr} {H : Hp} : Fx r H H := fun _ _ _ e => e
theorem Fx.trans {r : Addr} {H H1 H2 : Hp} (a : Fx r H H1) (b : Fx r H1 H2) : Fx r H H2 := fun x o n e => b x o n (a x o n e)
theorem Fx.ex {r : Addr} {H H1 H2 : Hp} (a : Fx r H H1) (b : Ex H1 H2) : Fx r H H2 := fun x o n e => b x o (a x o n e)
theorem Ex.fx {r : Addr} {H H' : Hp} (a : Ex H H') : Fx r H H' := fun x o _ e => a x o e
theorem Ex.new {H : Hp} {p : Addr} {o : HO} (h : H p = none) : Ex H (upd H p o) := fun a u e => by
  rw [upd_ne (ne_of_none e h)]
  exact e
theorem Ex.keep {H H' : Hp} {p : Addr} {o : HO} (e : Ex H H') (h : H p = none) : Ex H (upd H' p o) := fun a u q => by
  rw [upd_ne (ne_of_none q h)]
  exact e a u q
theorem Fx.keep {r : Addr} {H H' : Hp} {p : Addr} {o : HO} (e : Fx r H H') (h : H p = none) : Fx r H (upd H' p o) := fun a u n q => by
  rw [upd_ne (ne_of_none q h)]
  exact e a u n q
theorem Fx.own {r : Addr} {H H' : Hp} {o : HO} (e : Fx r H H') : Fx r H (upd H' r o) := fun a u n q => by
  rw [upd_ne n]
  exact e a u n q
theorem Ex.none {H H' : Hp} (e : Ex H H') {p : Addr} (h : H' p = none) : H p = none := e.free h
/-- the drawn numbers' list stands at r -/
def Rng (r : Addr) (H : Hp) : Prop := ∃ a b : Int, H r = some (.lst [.int a, .int b]) ∧ 0 ≤ b ∧ b < 2147483648
theorem Rng.ex {r : Addr} {H H' : Hp} (h : Rng r H) (e : Ex H H') : Rng r H' := by
  obtain ⟨a, b, h1, h2⟩ := h
  exact ⟨a, b, e _ _ h1, h2⟩
theorem Rng.ne {r p : Addr} {H : Hp} (h : Rng r H) (n : H p = none) : p ≠ r := by
  obtain ⟨a, b, h1, _⟩ := h
  exact (ne_of_none h1 n).symm
/-- something was drawn: r's list is another one, all else stays -/
structure Dr (r : Addr) (H H' : Hp) : Prop where
  fx : Fx r H H'
  rg : Rng r H'
theorem Dr.refl {r : Addr} {H : Hp} (h : Rng r H) : Dr r H H := ⟨Fx.refl, h⟩
theorem Dr.trans {r : Addr} {H H1 H2 : Hp} (a : Dr r H H1) (b : Dr r H1 H2) : Dr r H H2 := ⟨a.fx.trans b.fx, b.rg⟩
theorem Dr.ex {r : Addr} {H H1 H2 : Hp} (a : Dr r H H1) (b : Ex H1 H2) : Dr r H H2 := ⟨a.fx.ex b, a.rg.ex b⟩
theorem Dr.new {r : Addr} {H : Hp} {p : Addr} {o : HO} (h : Rng r H) (n : H p = none) : Dr r H (upd H p o) := (Dr.refl h).ex (Ex.new n)
theorem Dr.get {r : Addr} {H H' : Hp} {p : Addr} {o : HO} (a : Dr r H H') (n : p ≠ r) (h : H p = some o) : H' p = some o := a.fx p o n h
theorem Dr.keep {r : Addr} {H H' : Hp} {p : Addr} {o : HO} (a : Dr r H H') (hr : Rng r H) (n : H p = none) : Dr r H (upd H' p o) := by
  obtain ⟨x, y, h1, h2⟩ := a.rg
  exact ⟨a.fx.keep n, x, y, by rw [upd_ne (hr.ne n).symm]; exact h1, h2⟩
theorem Dr.seqL {K : PySem.W.Frag} {r : Addr} {H H' : Hp} {p : Addr} {xs : List V} (a : Dr r H H') (n : p ≠ r) (h : SqL K H p xs) : SqL K H' p xs := by
  rcases h with (h | ⟨o, h⟩) | h
  · exact .inl (.inl (a.get n h))
  · exact .inl (.inr ⟨o, a.get n h⟩)
  · exact .inr h
theorem ex_seqL {K : PySem.W.Frag} {H H' : Hp} {p : Addr} {xs : List V} (a : Ex H H') (h : SqL K H p xs) : SqL K H' p xs := by
  rcases h with (h | ⟨o, h⟩) | h
  · exact .inl (.inl (a _ _ h))
  · exact .inl (.inr ⟨o, a _ _ h⟩)
  · exact .inr h
theorem ex_seqT {K : PySem.W.Frag} {H H' : Hp} {p : Addr} {xs : List V} (a : Ex H H') (h : SqT K H p xs) : SqT K H' p xs := by
  rcases h with (h | ⟨o, h⟩) | h
  · exact .inl (.inl (a _ _ h))
  · exact .inl (.inr ⟨o, a _ _ h⟩)
  · exact .inr h
theorem dr_seqT {K : PySem.W.Frag} {r : Addr} {H H' : Hp} {p : Addr} {xs : List V} (a : Dr r H H') (n : p ≠ r) (h : SqT K H p xs) : SqT K H' p xs := by
  rcases h with (h | ⟨o, h⟩) | h
  · exact .inl (.inl (a.get n h))
  · exact .inl (.inr ⟨o, a.get n h⟩)
  · exact .inr h
/-! ### what the drawing defs promise -/
def spRng (K : PySem.W.Frag) : Sp := fun vs H Q _ => ∃ (a : Addr) (ns : List Int) (k : Int), vs = [.ref a, .int k] ∧ SqL K H a (ns.map V.int) ∧ 0 ≤ k ∧ k ≤ 1000 ∧
  ∀ (p : Addr) (H' : Hp), H p = none → Ex H H' → Rng p H' → Q (.ref p) H'
def spDraw : Sp := fun vs H Q _ => ∃ (r : Addr) (m : Int), vs = [.ref r, .int m] ∧ Rng r H ∧ 0 < m ∧ m ≤ 100000 ∧
  ∀ (k : Int) (H' : Hp), 0 ≤ k → k < m → Dr r H H' → Q (.int k) H'
def spChoice (K : PySem.W.Frag) : Sp := fun vs H Q _ => ∃ (r a : Addr) (xs : List V), vs = [.ref r, .ref a] ∧ Rng r H ∧ a ≠ r ∧ SqL K H a xs ∧ xs ≠ [] ∧ xs.length ≤ 100000 ∧
  ∀ (v : V) (H' : Hp), v ∈ xs → Dr r H H' → Q v H'
/-- of a text -/
def spChoiceS : Sp := fun vs H Q _ => ∃ (r : Addr) (z : Str), vs = [.ref r, .str z] ∧ Rng r H ∧ z.cps.toList ≠ [] ∧ z.cps.toList.length ≤ 100000 ∧
  ∀ (c : Nat) (H' : Hp), c ∈ z.cps.toList → Dr r H H' → Q (.str ⟨#[c]⟩) H'
/-! ### texts times numbers -/
theorem str_fold (k : Nat) (a acc : Array Nat) : ((List.replicate k a).foldl (· ++ ·) acc).toList = acc.toList ++ (List.replicate k a.toList).flatten := by
  induction k generalizing acc with
  | zero => simp
  | succ k ih => rw [List.replicate_succ, List.foldl_cons, ih]; simp [List.replicate_succ]
/-- a text so many times -/
def repS (z : Str) (n : Nat) : Str := ⟨(List.replicate n z.cps.toList).flatten.toArray⟩
theorem repS_len (z : Str) (n : Nat) : (repS z n).cps.toList.length = n * z.cps.toList.length := by
  unfold repS
  simp
def rRepS : R2 := fun x y H Q => ∃ (z : Str) (n : Int), x = .str z ∧ y = .int n ∧ 0 ≤ n ∧ n ≤ 100000 ∧ z.cps.toList.length * n.toNat ≤ 1000000 ∧ Q (.str (repS z n.toNat)) H
theorem op_repS {X : Cx} : OpR X (binaryOp .Mult) rRepS := by
  intro pins s σ H x y v u Q I rx ry h
  obtain ⟨z, n, rfl, rfl, h0, h1, h2, q⟩ := h
  obtain ⟨t, rfl⟩ := rx
  obtain ⟨t', rfl⟩ := ry
  have lz : z.length = z.cps.toList.length := by show z.cps.size = _; simp
  have h3 : z.length * n.toNat ≤ 1000000 := by rw [lz]; exact h2
  refine PySem.P.mul_str (by simp; omega) (fun h4 _ => ?_) (fun _ _ => ?_) ?_
  · intro hc
    have e : (z.length : Int) * n ≤ 1000000 := by
      have : ((z.length * n.toNat : Nat) : Int) ≤ 1000000 := by omega
      rw [Int.natCast_mul, Int.toNat_of_nonneg h0] at this
      exact this
    have hn : 0 < n := by omega
    have := (Int.lt_iff_add_one_le).mp hc
    have h5 : (2 ^ 63 - 1) / n + 1 ≤ (z.length : Int) := this
    have h6 : 2 ^ 63 - 1 < n * ((2 ^ 63 - 1) / n + 1) := by
      have := Int.lt_mul_ediv_self_add (x := (2 ^ 63 - 1 : Int)) hn
      rw [Int.mul_add, Int.mul_one]
      exact this
    have h7 : n * ((2 ^ 63 - 1) / n + 1) ≤ n * (z.length : Int) := Int.mul_le_mul_of_nonneg_left h5 h0
    rw [Int.mul_comm] at e
    have : (2 ^ 63 - 1 : Int) < 1000000 := by omega
    exact absurd this (by decide)
  · unfold Builtin.Str.tooLong
    have : z.length * n.toNat ≤ sizeLine := Nat.le_trans h3 (by decide)
    first | simp; omega | (rw [decide_eq_false (by omega)]) | omega
  · by_cases c1 : n < 1
    · rw [if_pos c1]
      have : n.toNat = 0 := by omega
      refine ⟨by decide, ⟨.str (repS z n.toNat), H, I.tok _, ?_, q⟩⟩
      exact ⟨_, by rw [this]; rfl⟩
    · rw [if_neg c1]
      by_cases c2 : (n == 1 || z.length == 0) = true
      · rw [if_pos c2]
        refine ⟨.str (repS z n.toNat), H, I, ?_, q⟩
        have e : z = repS z n.toNat := by
          have : z.cps = (repS z n.toNat).cps := by
            apply Array.ext'
            simp only [Bool.or_eq_true, beq_iff_eq] at c2
            rcases c2 with c2 | c2
            · subst c2; simp [repS]
            · rw [lz] at c2
              have c3 := List.length_eq_zero_iff.mp c2
              simp [repS, c3]
          exact congrArg PySem.Str.mk this
        exact ⟨t, by rw [← e]⟩
      · rw [if_neg c2]
        have ez : (⟨(List.replicate n.toNat z.cps).foldl (· ++ ·) #[]⟩ : Str) = repS z n.toNat := by
          unfold repS
          congr 1
          apply Array.ext'
          rw [str_fold]; simp
        refine ⟨?_, ⟨.str (repS z n.toNat), H, I.tok _, ⟨s.toks, by rw [ez]⟩, q⟩⟩
        · show _ ≤ _
          have e : ((List.replicate n.toNat z.cps).foldl (· ++ ·) #[]).toList.length = n.toNat * z.cps.toList.length := by rw [str_fold]; simp
          have : ((List.replicate n.toNat z.cps).foldl (· ++ ·) #[]).size ≤ 1000000 := by
            rw [← Array.length_toList, e, Nat.mul_comm]; exact h2
          exact Nat.le_trans this (by decide)
end Ab
namespace Ab
open PySem PySem.Spec PyProof.Rows L2 TL
theorem cx_K {CX : CXT} {P : Program} {w : World} {K : PySem.W.Frag} {mg : Str → Option Value} {base : Heap} {N : List Str} {qual : Str} {scope : Scope} {f : Addr} {cd : Value} {A : Around} {outer : List Env} {s : Shared} {H : Hp} {E : XK} :
    (cxOf CX P w K mg base N qual scope f cd A outer s H E).K = K := rfl
theorem cx_Kn {CX : CXT} {P : Program} {w : World} {K : PySem.W.Frag} {mg : Str → Option Value} {base : Heap} {N : List Str} {qual : Str} {scope : Scope} {f : Addr} {cd : Value} {A : Around} {outer : List Env} {s : Shared} {H : Hp} {E : XK} :
    (Cx.nox (cxOf CX P w K mg base N qual scope f cd A outer s H E)).K = K := rfl
theorem scal_ii {i j : Int} : scal (.int i) (.int j) = true := rfl
theorem scal_ss {i j : Str} : scal (.str i) (.str j) = true := rfl
theorem scal_bb {i j : Bool} : scal (.bl i) (.bl j) = true := rfl
theorem scal_nn : scal .non .non = true := rfl
theorem scal_is {i : Int} {j : Str} : scal (.int i) (.str j) = true := rfl
theorem scal_si {i : Str} {j : Int} : scal (.str i) (.int j) = true := rfl
theorem start_eq (N : List Str) (vs : List V) : L2.start N vs = vs.map some ++ List.replicate (N.length - vs.length) none := rfl
/-! ### texts as lists of codes -/
abbrev cs (z : Str) : List Nat := z.cps.toList
theorem repS_mem {z : Str} {n c : Nat} (h : c ∈ cs (repS z n)) : c ∈ cs z := by
  have h' : c ∈ (List.replicate n z.cps.toList).flatten := by simpa [cs, repS] using h
  obtain ⟨l, hl, hc⟩ := List.mem_flatten.mp h'
  rw [(List.mem_replicate.mp hl).2] at hc
  exact hc
theorem cs_len (z : Str) : z.length = (cs z).length := by show z.cps.size = _; simp
theorem cs_app (a b : Str) : cs (a ++ b) = cs a ++ cs b := by
  show (a.cps ++ b.cps).toList = _
  simp
theorem cs_app_len (a b : Str) : (cs (a ++ b)).length = (cs a).length + (cs b).length := by rw [cs_app, List.length_append]
theorem cs_inj {a b : Str} (h : cs a = cs b) : a = b := by
  cases a; cases b
  have : (⟨_⟩ : Str) = ⟨_⟩ := congrArg PySem.Str.mk (Array.ext' h)
  exact this
theorem joinL_nil : ∀ ps : List (List Nat), joinL [] ps = ps.flatten
  | [] => rfl
  | [p] => by simp [joinL]
  | p :: q :: r => by
    show p ++ ([] ++ joinL [] (q :: r)) = _
    rw [joinL_nil (q :: r)]; simp
theorem cs_join0 (ys : List Str) : cs (Txt.join "" ys) = (ys.map cs).flatten := by
  rw [join_eq]
  have e := tl_join "" ys
  have e0 : tl ("" : Str) = [] := by decide +kernel
  rw [e0, joinL_nil] at e
  exact e
theorem strs_of {p : Str → Prop} : ∀ {ys : List V}, (∀ (i : Nat) y, ys[i]? = some y → ∃ z : Str, y = .str z ∧ p z) → ∃ zs : List Str, ys = zs.map V.str ∧ ∀ z ∈ zs, p z
  | [], _ => ⟨[], rfl, fun z h => by cases h⟩
  | y :: ys, h => by
    obtain ⟨z, e, hz⟩ := h 0 y rfl
    obtain ⟨zs, e2, h2⟩ := strs_of (ys := ys) fun i y' q => h (i + 1) y' (by simpa using q)
    refine ⟨z :: zs, by rw [e, e2]; rfl, fun u hu => ?_⟩
    rcases List.mem_cons.mp hu with rfl | hu
    · exact hz
    · exact h2 u hu
/-- pieces of one sign each -/
theorem ones_sum {L : List Nat} : ∀ {zs : List Str}, (∀ z ∈ zs, ∃ c ∈ L, z = ⟨#[c]⟩) → (zs.map (·.length)).sum = zs.length ∧ (zs.map cs).flatten.length = zs.length ∧ ∀ c ∈ (zs.map cs).flatten, c ∈ L
  | [], _ => ⟨rfl, rfl, fun c h => by cases h⟩
  | z :: zs, h => by
    obtain ⟨h1, h2, h3⟩ := ones_sum (zs := zs) fun u hu => h u (List.mem_cons_of_mem _ hu)
    obtain ⟨c, hc, e⟩ := h z (List.mem_cons_self ..)
    subst e
    refine ⟨?_, ?_, fun d hd => ?_⟩
    · rw [List.map_cons, List.sum_cons, h1, List.length_cons]
      show 1 + zs.length = zs.length + 1
      omega
    · rw [List.map_cons, List.flatten_cons, List.length_append, h2, List.length_cons]
      show 1 + zs.length = zs.length + 1
      omega
    · rw [List.map_cons, List.flatten_cons] at hd
      rcases List.mem_append.mp hd with hd | hd
      · have : d = c := by simpa using hd
        rw [this]; exact hc
      · exact h3 d hd
end Ab

set_option Elab.async false
set_option linter.all false
set_option maxRecDepth 100000
set_option maxHeartbeats 4000000
/-! AbC: comprehensions. -/
namespace Ab
open PySem PySem.Spec PyProof.Rows L2
/-- all that stands but what M names stays -/
def Fz (M : Addr → Prop) (H H' : Hp) : Prop := ∀ b o, ¬ M b → H b = some o → H' b = some o
theorem Fz.refl {M : Addr → Prop} {H : Hp} : Fz M H H := fun _ _ _ e => e
theorem Fz.trans {M : Addr → Prop} {H H1 H2 : Hp} (a : Fz M H H1) (b : Fz M H1 H2) : Fz M H H2 := fun x o n e => b x o n (a x o n e)
theorem Fz.keep {M : Addr → Prop} {H H' : Hp} {p : Addr} {o : HO} (e : Fz M H H') (h : H p = none) : Fz M H (upd H' p o) := fun a u n q => by
  rw [upd_ne (ne_of_none q h)]
  exact e a u n q
abbrev Mr (r : Addr) : Addr → Prop := fun b => b = r
abbrev M0 : Addr → Prop := fun _ => False
theorem Dr.fz {r : Addr} {H H' : Hp} (d : Dr r H H') : Fz (Mr r) H H' := fun b o n e => d.fx b o n e
theorem ex_fz {H H' : Hp} (d : Ex H H') : Fz M0 H H' := fun b o _ e => d b o e
theorem fz_ex {H H' : Hp} (d : Fz M0 H H') : Ex H H' := fun b o e => d b o (fun z => z) e
theorem fz_dr {r : Addr} {H H' : Hp} (d : Fz (Mr r) H H') (h : Rng r H') : Dr r H H' := ⟨fun b o n e => d b o n e, h⟩
/-- all that is new since B stays -/
def Kp (B H H' : Hp) : Prop := ∀ b o, B b = none → H b = some o → H' b = some o
theorem Kp.of_ex {B H H' : Hp} (e : Ex H H') : Kp B H H' := fun b o _ q => e b o q
theorem Kp.of_dr {r : Addr} {B H H' : Hp} (hr : B r ≠ none) (d : Dr r H H') : Kp B H H' := fun b o n q => d.fx b o (fun z => hr (z ▸ n)) q
theorem Kp.of_fz {M : Addr → Prop} {B H H' : Hp} (hm : ∀ b, M b → B b ≠ none) (d : Fz M H H') : Kp B H H' := fun b o n q => d b o (fun z => hm b z n) q
theorem upd_some {H : Hp} {a b : Addr} {o : HO} (h : H b ≠ none) : upd H a o b ≠ none := by
  unfold upd
  split
  · exact nofun
  · exact h
theorem upd_none {H : Hp} {a b : Addr} {o : HO} (h : upd H a o b = none) : b ≠ a ∧ H b = none := by
  unfold upd at h
  split at h
  · cases h
  · rename_i n; exact ⟨n, h⟩
/-- what is not in a later heap was not in the earlier one -/
theorem base_dr {r D : Addr} {H1 H : Hp} {o : HO} (d : Dr r H1 H) (hD : H D ≠ none) {b : Addr} (h : H b = none) : upd H1 D o b = none := by
  have n1 : b ≠ D := fun z => hD (z ▸ h)
  rw [upd_ne n1]
  cases e : H1 b with
  | none => rfl
  | some u =>
    have n2 : b ≠ r := (d.rg.ne h)
    rw [d.fx b u n2 e] at h
    cases h
theorem base_ex {D : Addr} {H1 H : Hp} {o : HO} (d : Ex H1 H) (hD : H D ≠ none) {b : Addr} (h : H b = none) : upd H1 D o b = none := by
  have n1 : b ≠ D := fun z => hD (z ▸ h)
  rw [upd_ne n1]
  exact d.free h
/-- a comprehension's reading behind its iterable -/
def LcF (J : It) (g : TG) (tt : TT) (te : TE) (vs : List Nat) (σ : L2.St) (H1 : Hp) (Q : VK) : Prop := ∀ D, H1 D = none → ∃ W : Nat → Nat → Hp → Prop, (∃ m, W 0 m (upd H1 D (.lst []))) ∧ ∀ i m H, W i m H →
  (J.stop i H ∧ Q (.ref D) H) ∨ (J.go i H ∧ ∃ Nx : Hp → Prop, (∀ H', Nx H' → ∃ m', m' < m ∧ W (i + 1) m' H') ∧ ∀ x H', J.yld i H x H' → g x (wipe σ vs) H' fun σ2 H2 => wipe σ2 vs = wipe σ vs ∧ tt σ2 H2 fun b H3 =>
    if b = true then te σ2 H3 fun y H4 => ∃ acc, H4 D = some (.lst acc) ∧ acc.length < sizeLine ∧ Nx (upd H4 D (.lst (acc ++ [y]))) else Nx H3)
theorem tLc_eq {wi : TI} {g : TG} {tt : TT} {te : TE} {vs : List Nat} {σ : L2.St} {H : Hp} {Q : VK} : tLc wi g tt te vs σ H Q = wi σ H fun J H1 => LcF J g tt te vs σ H1 Q := rfl
/-- a loop's reading behind its iterable -/
def ForF (J : It) (g : TG) (tb : TS) (D : Ends) (σ : L2.St) (H1 : Hp) : Prop := ∃ W : Nat → Nat → L2.St → Hp → Prop, (∃ m, W 0 m σ H1) ∧ ∀ i m σ H, W i m σ H →
  (J.stop i H ∧ D.nx σ H) ∨ (J.go i H ∧ ∃ N : L2.St → Hp → Prop, (∀ σ' H', N σ' H' → ∃ m', m' < m ∧ W (i + 1) m' σ' H') ∧ ∀ x H', J.yld i H x H' → g x σ H' fun σ2 H2 => tb { D with nx := N, ct := N, bk := D.nx } σ2 H2)
theorem tFor_eq {wi : TI} {g : TG} {tb : TS} {D : Ends} {σ : L2.St} {H : Hp} : tFor wi g tb D σ H = wi σ H fun J H1 => ForF J g tb D σ H1 := rfl
theorem for_f {J : It} {n : Nat} {G : Hp → Prop} {Y : Nat → Hp → V → Hp → Prop} (w : Walk J n G Y) {g : TG} {tb : TS} {D : Ends} {σ : L2.St} {H : Hp} (Pv : Nat → L2.St → Hp → Prop) (h0 : Pv 0 σ H) (hG : ∀ i σ H, i ≤ n → Pv i σ H → G H)
    (hs : ∀ i x σ H H', i < n → Pv i σ H → Y i H x H' → g x σ H' fun σ2 H2 => tb { D with nx := Pv (i + 1), ct := Pv (i + 1), bk := D.nx } σ2 H2) (hd : ∀ σ H, Pv n σ H → D.nx σ H) : ForF J g tb D σ H := for_it w Pv h0 hG hs hd
/-- a comprehension without a test, over anything that is walked -/
theorem lc_f {J : It} {n : Nat} {G : Hp → Prop} {Y : Nat → Hp → V → Hp → Prop} (w : Walk J n G Y) {g : TG} {te : TE} {vs : List Nat} {σ : L2.St} {H1 : Hp} {Q : VK}
    {M : Addr → Prop} {I : Hp → Prop} (hM : ∀ b, M b → H1 b ≠ none) (hI : ∀ H D o, H1 D = none → I H → I (upd H D o)) (I1 : I H1)
    (hG : ∀ H, Fz M H1 H → I H → G H) (hn : n < sizeLine) (E : Nat → Hp → Hp → V → Prop)
    (mono : ∀ i B H H' y, Kp B H H' → E i B H y → E i B H' y)
    (turn : ∀ D i x H H', i < n → H1 D = none → H D ≠ none → Fz M H1 H → I H → Y i H x H' → ∀ Qn : VK,
      (∀ y H4, Fz M H H4 → I H4 → E i (upd H1 D (.lst [])) H4 y → Qn y H4) → g x (wipe σ vs) H' fun σ2 H2 => wipe σ2 vs = wipe σ vs ∧ te σ2 H2 Qn)
    (done : ∀ D ys H, H1 D = none → Fz M H1 H → I H → H D = some (.lst ys) → ys.length = n → (∀ i y, ys[i]? = some y → E i (upd H1 D (.lst [])) H y) → Q (.ref D) H) :
    LcF J g tYes te vs σ H1 Q := by
  intro D hD
  have nM : ¬ M D := fun z => hM D z hD
  refine lc_it w (Qd := fun H => Q (.ref D) H) (fun i H => Fz M H1 H ∧ I H ∧ ∃ ys, H D = some (.lst ys) ∧ ys.length = i ∧ ∀ j y, ys[j]? = some y → E j (upd H1 D (.lst [])) H y)
    ⟨Fz.refl.keep hD, hI _ _ _ hD I1, [], upd_same, rfl, fun j y e => by simp at e⟩ (fun i H _ p => hG H p.1 p.2.1) ?_ ?_
  · rintro i x H H' hi ⟨p1, p2, ys, p3, p4, p5⟩ hY
    refine turn D i x H H' hi hD (by rw [p3]; exact nofun) p1 p2 hY (fun y H4 => ∃ acc, H4 D = some (.lst acc) ∧ acc.length < sizeLine ∧ (Fz M H1 (upd H4 D (.lst (acc ++ [y]))) ∧ I (upd H4 D (.lst (acc ++ [y]))) ∧
      ∃ ys, upd H4 D (.lst (acc ++ [y])) D = some (.lst ys) ∧ ys.length = i + 1 ∧ ∀ j z, ys[j]? = some z → E j (upd H1 D (.lst [])) (upd H4 D (.lst (acc ++ [y]))) z)) fun y H4 r1 r2 r3 => ?_
    have hD4 : H4 D = some (.lst ys) := r1 D _ nM p3
    have kp : Kp (upd H1 D (.lst [])) H H4 := Kp.of_fz (fun b z => upd_some (hM b z)) r1
    have kp2 : Kp (upd H1 D (.lst [])) H4 (upd H4 D (.lst (ys ++ [y]))) := fun b o z e => by
      rw [upd_ne (upd_none z).1]; exact e
    refine ⟨ys, hD4, by omega, (p1.trans r1).keep hD, hI _ _ _ hD r2, ys ++ [y], upd_same, by simp [p4], fun j z e => ?_⟩
    rcases Nat.lt_or_ge j ys.length with hj | hj
    · rw [List.getElem?_append_left hj] at e
      exact mono _ _ _ _ _ kp2 (mono _ _ _ _ _ kp (p5 j z e))
    · rw [List.getElem?_append_right hj] at e
      have e2 : j - ys.length = 0 := by
        rcases Nat.eq_zero_or_pos (j - ys.length) with h | h
        · exact h
        · rw [List.getElem?_eq_none (by simp; omega)] at e; cases e
      have e3 : z = y := by rw [e2] at e; simpa using e.symm
      have e4 : j = i := by omega
      subst e3 e4
      exact mono _ _ _ _ _ kp2 r3
  · rintro H ⟨p1, p2, ys, p3, p4, p5⟩
    exact done D ys H hD p1 p2 p3 p4 p5
/-! ### the walks -/
section
variable {K : PySem.W.Frag} {te : TE} {g : TG} {j : Nat} {vs : List Nat} {σ : L2.St} {H : Hp} {Q : VK}
/-- things being drawn, over anything -/
theorem lc_dr {J : It} {n : Nat} {G : Hp → Prop} {Y : Nat → Hp → V → Hp → Prop} (w : Walk J n G Y) {r : Addr} (hR : Rng r H) (hG : ∀ H', Dr r H H' → G H') (hn : n ≤ 100000)
    (E : Nat → Hp → Hp → V → Prop) (mono : ∀ i B H H' y, Kp B H H' → E i B H y → E i B H' y)
    (turn : ∀ D i x H' H2, i < n → H D = none → H' D ≠ none → Dr r H H' → Y i H' x H2 → ∀ Qn : VK, (∀ y H4, Dr r H' H4 → E i (upd H D (.lst [])) H4 y → Qn y H4) →
      g x (wipe σ vs) H2 fun σ2 H3 => wipe σ2 vs = wipe σ vs ∧ te σ2 H3 Qn)
    (done : ∀ D ys H', H D = none → Dr r H H' → H' D = some (.lst ys) → ys.length = n → (∀ i y, ys[i]? = some y → E i (upd H D (.lst [])) H' y) → Q (.ref D) H') :
    LcF J g tYes te vs σ H Q := by
  refine lc_f (M := Mr r) (I := Rng r) w (fun b z => ?_) (fun H' D o n h => ?_) hR (fun H' f i => hG H' (fz_dr f i)) (Nat.lt_of_le_of_lt hn (by decide)) E mono (fun D i x H2 H' hi hD hD2 f hI hY Qn k => ?_)
    fun D ys H' hD f hI hy hl he => done D ys H' hD (fz_dr f hI) hy hl he
  · obtain ⟨a, b', h1, _⟩ := hR
    rw [z, h1]
    exact nofun
  · obtain ⟨x, y, h1, h2⟩ := h
    exact ⟨x, y, by rw [upd_ne (hR.ne n).symm]; exact h1, h2⟩
  · exact turn D i x H2 H' hi hD hD2 (fz_dr f hI) hY Qn fun y H4 d e => k y H4 d.fz d.rg e
/-- nothing but new objects -/
theorem lc_ex {J : It} {n : Nat} {G : Hp → Prop} {Y : Nat → Hp → V → Hp → Prop} (w : Walk J n G Y) (hG : ∀ H', Ex H H' → G H') (hn : n ≤ 100000)
    (E : Nat → Hp → Hp → V → Prop) (mono : ∀ i B H H' y, Kp B H H' → E i B H y → E i B H' y)
    (turn : ∀ D i x H' H2, i < n → H D = none → H' D ≠ none → Ex H H' → Y i H' x H2 → ∀ Qn : VK, (∀ y H4, Ex H' H4 → E i (upd H D (.lst [])) H4 y → Qn y H4) →
      g x (wipe σ vs) H2 fun σ2 H3 => wipe σ2 vs = wipe σ vs ∧ te σ2 H3 Qn)
    (done : ∀ D ys H', H D = none → Ex H H' → H' D = some (.lst ys) → ys.length = n → (∀ i y, ys[i]? = some y → E i (upd H D (.lst [])) H' y) → Q (.ref D) H') :
    LcF J g tYes te vs σ H Q :=
  lc_f (M := M0) (I := fun _ => True) w (fun _ z => z.elim) (fun _ _ _ _ _ => trivial) trivial (fun H' f _ => hG H' (fz_ex f)) (Nat.lt_of_le_of_lt hn (by decide)) E mono
    (fun D i x H2 H' hi hD hD2 f _ hY Qn k => turn D i x H2 H' hi hD hD2 (fz_ex f) hY Qn fun y H4 d e => k y H4 (ex_fz d) trivial e)
    fun D ys H' hD f _ hy hl he => done D ys H' hD (fz_ex f) hy hl he
/-- the elements' values are known: f i -/
theorem lc_val {J : It} {n : Nat} {G : Hp → Prop} {Y : Nat → Hp → V → Hp → Prop} (w : Walk J n G Y) (hG : ∀ H', Ex H H' → G H') (hn : n ≤ 100000) (f : Nat → V)
    (turn : ∀ i x H' H2, i < n → Ex H H' → Y i H' x H2 → ∀ Qn : VK, (∀ H4, Ex H' H4 → Qn (f i) H4) →
      g x (wipe σ vs) H2 fun σ2 H3 => wipe σ2 vs = wipe σ vs ∧ te σ2 H3 Qn)
    (done : ∀ D H', H D = none → Ex H H' → H' D = some (.lst ((List.range n).map f)) → Q (.ref D) H') :
    LcF J g tYes te vs σ H Q := by
  refine lc_ex w hG hn (fun i _ _ y => y = f i) (fun _ _ _ _ _ _ e => e) (fun D i x H' H2 hi _ _ e hY Qn k => turn i x H' H2 hi e hY Qn fun H4 d => k _ H4 d rfl) fun D ys H' hD e hy hl he => done D H' hD e ?_
  rw [hy]
  congr 2
  apply List.ext_getElem?
  intro i
  by_cases hi : i < n
  · have h1 : i < ys.length := by omega
    have := he i ys[i] (by simp [h1])
    simp [h1, hi, this]
  · rw [List.getElem?_eq_none (by omega), List.getElem?_eq_none (by simp; omega)]
end
end Ab

set_option Elab.async false
set_option linter.all false
set_option maxRecDepth 100000
set_option maxHeartbeats 4000000
/-! AbD: further facts of the head, as Bools. -/
namespace Ab
open PySem PySem.Spec PyProof.Rows L2 He
/-- isinstance of an own class's instance and a built-in class: no -/
def kitF (K : PySem.W.Frag) (x : Str) (T : String) : Bool := decide (PySem.W.kitOne K (.ref (ga K x)) (.type T) = some false)
/-- what isinstance asks of an own class -/
def insB (K : PySem.W.Frag) (x : Str) : Bool := eqO (PySem.W.findIn K (.ref (ga K x)) "__class__") (some (some (.builtin "object.__class__"))) &&
  (eqO (PySem.W.specialIn K (.builtin "object.__class__") "__get__") (some (some (.builtin "getset_descriptor.__get__"))) && (decide (PySem.W.takesIn K (.builtin "object.__class__") = some true) &&
  decide (PySem.W.mroIn K (ga K x) (.type "object") = some true)))
theorem insB_ok {K : PySem.W.Frag} {x : Str} (h : insB K x = true) (c : Cls K (ga K x)) {H : Hp} {a dx : Addr} {fs : List (Str × V)} (e : H a = some (.ins (ga K x) dx fs)) : TyX K H (.ref a) (.ref (ga K x)) := by
  obtain ⟨h1, h⟩ := ba h
  obtain ⟨h2, h⟩ := ba h
  obtain ⟨h3, h4⟩ := ba h
  exact .base (.ins e c (eqO_ok h1) (eqO_ok h2) (of_decide_eq_true h3) (of_decide_eq_true h4))
/-- the class's attributes are read plainly -/
def readB (K : PySem.W.Frag) (x : Str) : Bool := PySem.W.readsIn K (ga K x) (.type "type") && eqO (PySem.W.specialIn K (.ref (ga K x)) "__getattribute__") (some (some (.builtin "type.__getattribute__")))
theorem readB_ok {K : PySem.W.Frag} {x : Str} (h : readB K x = true) : ClX.CRead K (ga K x) (.type "type") := by
  obtain ⟨h1, h2⟩ := ba h
  exact ⟨h1, eqO_ok h2⟩
/-- C.f is a whole number -/
def cvalB (K : PySem.W.Frag) (x f : Str) (i : Int) : Bool := match PySem.W.findCls K (.ref (ga K x)) (.type "type") f with
  | some (.val (.int j _)) => decide (j = i)
  | _ => false
theorem cvalB_ok {K : PySem.W.Frag} {x f : Str} {i : Int} (h : cvalB K x f i = true) : ∃ u, ClX.CVal K (ga K x) (.type "type") f (.int i) u := by
  unfold cvalB at h
  split at h
  · rename_i j t e
    have : j = i := of_decide_eq_true h
    subst this
    exact ⟨_, e, ⟨t, rfl⟩⟩
  · cases h
end Ab

set_option Elab.async false
set_option linter.all false
set_option maxRecDepth 100000
set_option maxHeartbeats 4000000
/-! AbR: repr at the hand's level, also of lists with own objects within. -/
namespace Ab
open PySem PySem.Spec PyProof.Rows L2
/-- u shows as t in every heap over H0; as: the containers that are opened; d: units; k: room -/
def RepJ (X : Cx) (k d : Nat) (as : List Addr) (H0 : Hp) (u : Value) (t : Str) : Prop :=
  ∀ (n : Nat), n + t.length ≤ sizeLine → ∀ (A : Around) (g : List Code) (E : Value → Shared → Prop) (pins : List (Addr × Obj)) (σ : L2.St) (H : Hp) (s : Shared) (Q : Str → Shared → Prop),
    A.frames = X.A.frames → Room k A → A.guards = some g → (∀ b ∈ as, Clear g b) → A.units + d < cLine → Ex H0 H → Inv X pins σ H s →
    (∀ H' s', Ex H H' → Inv X pins σ H' s' → Q t s') → wpAny (model X.prog X.w) A (pyReprUnder n u) Q E s
section
variable {X : Cx} {k d : Nat} {as : List Addr} {H0 : Hp} {u : Value} {t : Str}
theorem RepJ.ex (h : RepJ X k d as H0 u t) {H1 : Hp} (e : Ex H0 H1) : RepJ X k d as H1 u t :=
  fun n hn A g E pins σ H s Q a1 a2 a3 a4 a5 a6 => h n hn A g E pins σ H s Q a1 a2 a3 a4 a5 (e.trans a6)
theorem RepJ.more (h : RepJ X k d as H0 u t) {bs : List Addr} (e : ∀ b ∈ as, b ∈ bs) : RepJ X k d bs H0 u t :=
  fun n hn A g E pins σ H s Q a1 a2 a3 a4 => h n hn A g E pins σ H s Q a1 a2 a3 fun b hb => a4 b (e b hb)
theorem RepJ.le (h : RepJ X k d as H0 u t) {k' d' : Nat} (e : k ≤ k') (e' : d ≤ d') : RepJ X k' d' as H0 u t :=
  fun n hn A g E pins σ H s Q a1 a2 a3 a4 a5 => h n hn A g E pins σ H s Q a1 (a2.mono e) a3 a4 (by omega)
/-- plain data -/
theorem RepJ.ofK (h : ∀ (pins : List (Addr × Obj)) (σ : L2.St) (H : Hp) (s : Shared), Ex H0 H → Inv X pins σ H s → ReprK X.prog X.w as s.heap d u t) : RepJ X k d as H0 u t :=
  fun n hn A g E pins σ H s Q _ _ hg hcl hu e I q => h pins σ H s e I n hn A g E s Q hg hcl hu (fun _ _ z => z) fun h' tk kp => q H _ (Same.refl _) (I.kept kp)
theorem RepJ.is (h : ReprIs X.prog X.w u t) : RepJ X k d [] H0 u t := .ofK fun _ _ _ _ _ _ => ReprK.of_is h _ _ _
/-- an instance, by its class's own def -/
theorem RepJ.own {a C dx f : Addr} {fs : List (Str × V)} {fd : FuncData} {ps : List Str} {sp : Sp} (F : Fq false X.prog X.w X.K X.mg X.base CX0 k f fd ps sp) (hb : Bw X.K fd ps 1 [] gPos)
    (hs : PySem.W.findIn X.K (.ref C) "__repr__" = some (some (.ref f))) (hf : PySem.W.isFn X.K (.ref f) = true)
    (h : ∀ H, Ex H0 H → H a = some (.ins C dx fs) ∧ sp [.ref a] H (fun v H' => v = .str t ∧ Ex H H') E0) : RepJ X k d [] H0 (.ref a) t := by
  intro n hn A g E pins σ H s Q hfr hr hg hcl hu e I q
  obtain ⟨ha, hsp⟩ := h H e
  obtain ⟨mA, J, _⟩ := ins_get I.hok ha
  obtain ⟨od, J, _⟩ := J.look
  refine wpAny_pyReprUnder_ref (by omega) ?_
  unfold pyReprObjUnder pyReprObjBy
  refine wpAny_bind (wpAny_cRoomFor hr.units0 ?_)
  refine wpAny_bind (wpAny_bind (J.type.here ((PySem.W.looks_findIn I.kIn hs).here ?_)))
  simp only [Option.isNone_some, Bool.false_eq_true, if_false]
  have e0 : Env0 X.prog X.w X.K X.mg X.base A X.stack s H := ⟨hfr.trans I.ok.frames, I.env0.mod, I.env0.bs, I.env0.bsz, I.env0.funs, I.env0.frf, I.env0.hok, I.env0.bare⟩
  obtain ⟨zs, hB, hV⟩ := hb s [.ref a] [] I.kIn rfl rfl
  have run : wpAny (model X.prog X.w) A (call (.ref f) [.ref a]) (fun r s' => ∃ tk H', r = .str t tk ∧ Ex H H' ∧ Inv X pins σ H' s') E s := by
    refine wpAny_call (codeAny_mono (F.go A X.stack s H _ _ _ _ E0 gd_false hr e0 hB (hV [.ref a] [] (.cons rfl .nil) .nil) hsp) fun r s' hq => ?_)
    cases r with
    | error _ => exact hq.elim
    | ok fl =>
      cases fl with
      | ret w' =>
        obtain ⟨v, H', I', r', rfl, ex⟩ := I.after hq
        obtain ⟨tk, rfl⟩ := r'
        exact ⟨tk, H', rfl, ex, I'⟩
      | _ => exact hq.elim
  simp only [callSpecialIfBoundBy?, bindSpecialIfBound?]
  refine wpAny_bind (wpAny_holding (wpAny_bind (wpAny_bind (wpAny_bind (J.type.here ((PySem.W.looks_findIn I.kIn hs).here ?_))))))
  refine wpAny_bind (wpAny_askSetting (wpAny_ite ?_))
  have fin : ∀ (Q' : Option Value → Shared → Prop), (∀ r s', (∃ tk H', r = .str t tk ∧ Ex H H' ∧ Inv X pins σ H' s') → Q' (some r) s') → wpAny (model X.prog X.w) A (call (.ref f) ([.ref a] ++ []) >>= fun v => pure (some v)) Q' E s := fun Q' h' =>
    wpAny_bind (wpAny_mono run (fun v s' z => wpAny_pure (h' v s' z)) fun _ _ z => z)
  split
  · refine wpAny_bind ((PySem.W.bind_fn I.kIn _ (beq_iff_eq.mp hf)).here (wpAny_pure ?_))
    refine fin _ fun r s' z => ?_
    obtain ⟨tk, H', rfl, ex, I'⟩ := z
    exact wpAny_bind (wpAny_isInstance (T := "str") (b := true) rfl isSubtype_str_str (wpAny_pure ⟨_, _, rfl, q H' s' ex I'⟩))
  · refine wpAny_tryCatch (wpAny_bind ((PySem.W.bind_fn I.kIn _ (beq_iff_eq.mp hf)).here (wpAny_pure ?_)))
    refine fin _ fun r s' z => ?_
    obtain ⟨tk, H', rfl, ex, I'⟩ := z
    exact wpAny_bind (wpAny_isInstance (T := "str") (b := true) rfl isSubtype_str_str (wpAny_pure ⟨_, _, rfl, q H' s' ex I'⟩))
end
/-! ### lists -/
section
variable {X : Cx} {k d n : Nat} {as : List Addr} {H0 : Hp} {a : Addr} {vs : List V} {ts : List Str} {A : Around} {g : List Code}
theorem loop_units (A : Around) (z : Args) : (A.under (.builtin "list.__repr__.loop" z)).units = A.units + 1 := units_under_list_loop A z
theorem loop_frames (A : Around) (z : Args) : (A.under (.builtin "list.__repr__.loop" z)).frames = A.frames := by
  first | rfl | simp [Around.under, Code.envs, Code.isFrame, pushEnvs]
theorem loop_depth (A : Around) (z : Args) : (A.under (.builtin "list.__repr__.loop" z)).depth ≤ A.depth + 1 := by
  first | exact Nat.le_refl _ | exact Nat.le_succ _ | simp [Around.under, Code.weight, Code.isCreation, Code.isGuard, Code.isCaller, Code.frames, Code.isFrame, guardIds]
theorem loop_handled (A : Around) (z : Args) : (A.under (.builtin "list.__repr__.loop" z)).handled = A.handled := by
  first | rfl | simp [Around.under]
theorem room_loop (r : Room (k + 1) A) (z : Args) : Room k (A.under (.builtin "list.__repr__.loop" z)) :=
  ⟨(loop_handled A z).trans r.hd, by have := r.dp; have := loop_depth A z; omega, by have := r.un; have := loop_units A z; omega⟩
/-- what the items come to -/
def Shw (X : Cx) (k d : Nat) (as : List Addr) (H0 : Hp) (vs : List V) (ts : List Str) : Prop :=
  ts.length = vs.length ∧ ∀ (i : Nat) (v : V), vs[i]? = some v → ∃ t, ts[i]? = some t ∧ ∀ u, RelV v u → RepJ X k d as H0 u t
theorem Shw.ex (h : Shw X k d as H0 vs ts) {H1 : Hp} (e : Ex H0 H1) : Shw X k d as H1 vs ts :=
  ⟨h.1, fun i v q => let ⟨t, h1, h2⟩ := h.2 i v q; ⟨t, h1, fun u r => (h2 u r).ex e⟩⟩
theorem Shw.nil : Shw X k d as H0 [] [] := ⟨rfl, fun i v q => by simp at q⟩
theorem Shw.cons {v : V} {t : Str} (h1 : ∀ u, RelV v u → RepJ X k d as H0 u t) (h2 : Shw X k d as H0 vs ts) : Shw X k d as H0 (v :: vs) (t :: ts) := by
  refine ⟨by simp [h2.1], fun i w q => ?_⟩
  cases i with
  | zero =>
    simp at q
    subst q
    exact ⟨t, rfl, h1⟩
  | succ i =>
    simp at q
    obtain ⟨t', e, r⟩ := h2.2 i w q
    exact ⟨t', by simpa using e, r⟩
def pO (acc : Array Value) (c : Nat) : Obj := { cls := .type "list", dict := none, data := .seq acc c, slots := #[] }
theorem vals_at : ∀ {xs : List V} {us : List Value} {i : Nat} {u : Value}, Vals xs us → us[i]? = some u → ∃ v, xs[i]? = some v ∧ RelV v u
  | _, _, i, u, .nil, e => by simp at e
  | _, _, 0, u, .cons r _, e => by
    simp at e
    subst e
    exact ⟨_, rfl, r⟩
  | _, _, i + 1, u, .cons _ q, e => by
    simp at e
    obtain ⟨v, h1, h2⟩ := vals_at q e
    exact ⟨v, by simpa using h1, h2⟩
open Builtin Builtin.List in
theorem rep_loop {P : Addr} {pins : List (Addr × Obj)} {σ : L2.St} {R : Result → Shared → Prop} (hne : a ≠ P) (rP : FbM.Rec X pins P) (hL : ∀ H, Ex H0 H → SqL X.K H a vs) (hfr : A.frames = X.A.frames) (hr : Room (k + 1) A)
    (hg : A.guards = some g) (hcl : ∀ b ∈ as, Clear g b) (hu : A.units + (d + 1) < cLine) (hna : a ∉ as) (hT : Shw X k d as H0 vs ts) (hsz : n + (listText ts).length ≤ sizeLine) :
    ∀ (m i : Nat) (s : Shared) (H : Hp) (acc : Array Value) (c : Nat) (done : List (Str × Tok)), vs.length - i = m → i ≤ vs.length → Ex H0 H → Inv X ((P, pO acc c) :: pins) σ H s →
      acc.toList = strValues done → done.map (·.1) = ts.take i → (∀ H' s' u, Ex H H' → Inv X pins σ H' s' → R (.ok (.ret (.str (listText ts) u))) s') →
      codeAny (model X.prog X.w) A (.builtin "list.__repr__.loop" ⟨[.ref a, rawInt i, .ref P, rawInt ((n + piled (ts.take i) : Nat) : Int)], []⟩) R s := by
  have z0 : (listText ts).length = (textFrom 0 "[" ts).length + 1 := by
    show (textFrom 0 "[" ts ++ "]").length = _
    rw [strLen_append]
    rfl
  have zL := textFrom_len ts 0 "["
  have z1 : vs.length ≤ sizeLine := by
    have h1 := zL.1
    rw [if_neg (Nat.lt_irrefl 0)] at h1
    have h2 := hT.1
    omega
  have z2 : ∀ t ∈ ts, t.length ≤ sizeLine := fun t ht => by
    have h2 := zL.2.1 t ht
    omega
  have z3 : (listText ts).length ≤ sizeLine := by omega
  have z4 := piled_le_listText ts
  intro m
  induction m with
  | zero =>
    intro i s H acc c done hm hi e0 I hacc hdone hR
    have hin : i = vs.length := by omega
    obtain ⟨its, rv, ⟨o, na, ho, hc, hd0, hd⟩, _⟩ := (ClX.unpin I).list (hL H e0)
    have hP := ClX.pin_at I
    refine codeAny_builtin F.entry_list_repr_loop ?_
    show wpAny _ _ («list.__repr__.loop» ⟨[.ref a, .int i 0, .ref P, .int ((n + piled (ts.take i) : Nat) : Int) 0], []⟩) _ _ s
    rw [repr_loop_tree]
    refine wpAny_bind (wpAny_listItems ho hd ?_)
    have q0 : its.toArray[(i : Int).toNat]? = none := by simp [hin, ← rv.length]
    simp only [q0]
    unfold reprEnd
    refine wpAny_bind (wpAny_listItems hP rfl ?_)
    rw [hacc, repr_fold]
    refine wpAny_bind (wpAny_pure ?_)
    have q1 : done.map (·.1) = ts := by rw [hdone, hin, ← hT.1, List.take_length]
    rw [q1]
    refine wpAny_bind (wpAny_mkStr (wpAny_pure ?_) z3)
    exact hR H _ _ (Same.refl _) ((ClX.unpin I).tok _)
  | succ m ih =>
    intro i s H acc c done hm hi e0 I hacc hdone hR
    have hlt : i < vs.length := by omega
    obtain ⟨its, rv, ⟨o, na, ho, hc, hd0, hd⟩, _⟩ := (ClX.unpin I).list (hL H e0)
    have hli : i < its.length := by rw [← rv.length]; exact hlt
    obtain ⟨v, hv, rvi⟩ := vals_at (i := i) (u := its[i]) rv (by simp [hli])
    obtain ⟨t, ht, hrep⟩ := hT.2 i v hv
    have hp1 := piled_take_succ ht
    have hp2 := piled_take_le ts (i + 1)
    refine codeAny_builtin F.entry_list_repr_loop ?_
    show wpAny _ _ («list.__repr__.loop» ⟨[.ref a, .int i 0, .ref P, .int ((n + piled (ts.take i) : Nat) : Int) 0], []⟩) _ _ s
    rw [repr_loop_tree]
    refine wpAny_bind (wpAny_listItems ho hd ?_)
    have q0 : its.toArray[(i : Int).toNat]? = some its[i] := by simp [hli]
    simp only [q0]
    rw [Int.toNat_natCast]
    refine wpAny_bind (wpAny_holding (hrep _ rvi (n + piled (ts.take i) + 1) (by omega) _ _ _ _ σ H s _ ((loop_frames _ _).trans hfr) (room_loop hr _) (guards_under_guard (isGuard_list_loop _) hg)
      (fun b hb => (hcl b hb).cons (a := a) fun e => hna (e ▸ hb)) (by rw [loop_units]; omega) e0 I fun H1 s1 ex1 I1 => ?_))
    refine wpAny_bind (wpAny_mkStr ?_ (z2 t (List.mem_of_getElem? ht)))
    refine wpAny_bind ?_
    show wpAny _ _ (updateSeq P _) _ _ _
    have hasz : acc.size ≤ sizeLine := by
      have e1 : acc.toList.length = acc.size := by simp
      have e2 : (strValues done).length = done.length := by simp [strValues]
      have e3 : done.length = (ts.take i).length := by rw [← hdone, List.length_map]
      have e4 : (ts.take i).length ≤ i := by rw [List.length_take]; omega
      rw [hacc] at e1
      omega
    have hP1 := ClX.pin_at I1
    refine wpAny_updateSeq hP1 rfl (wpAny_pure ⟨F.quiet_list_repr_loop _, ?_⟩) hasz
    have e1 : ((i : Int) + 1) = ((i + 1 : Nat) : Int) := by omega
    have e2 : n + piled (ts.take i) + (t.length + 2) = n + piled (ts.take (i + 1)) := by omega
    rw [e1, e2]
    have J : Inv X pins σ H1 { s1 with heap := s1.heap.update P (Obj.mapSeq fun x => x.push (.str t s1.toks)), toks := s1.toks + 1 } :=
      rP.turn (ClX.unpin I1) (ClX.pin_un I1) fun b o hb e => (Heap.get?_update_other _ _ fun h : P = b => hb h.symm).trans e
    have pinP := I1.pin (P, pO acc c) (List.mem_append_right _ List.mem_cons_self)
    have hP2 := Heap.get?_update_self (Obj.mapSeq fun x => x.push (.str t s1.toks)) hP1 rfl
    have J2 : Inv X ((P, Obj.mapSeq (fun x => x.push (.str t s1.toks)) (pO acc c)) :: pins) σ H1 { s1 with heap := s1.heap.update P (Obj.mapSeq fun x => x.push (.str t s1.toks)), toks := s1.toks + 1 } := by
      refine J.pins_of fun p hp => ?_
      rcases List.mem_cons.mp hp with e | e
      · subst e
        exact ⟨hP2, pinP.2.1, pinP.2.2.1, pinP.2.2.2.1, fun v z => nomatch z⟩
      · exact J.pin p (List.mem_append_right _ e)
    exact ih (i + 1) _ H1 (acc.push (.str t s1.toks)) _ (done ++ [(t, s1.toks)]) (by omega) hlt (e0.trans ex1) J2 (by simp [hacc, strValues]) (by simp [List.take_add_one, ht, hdone]) fun H' s' u e' I' => hR H' s' u (ex1.trans e') I'
open Builtin Builtin.List in
theorem rep_at {pins : List (Addr × Obj)} {σ : L2.St} {H : Hp} {s : Shared} {R : Result → Shared → Prop} (h0 : vs ≠ []) (hL : ∀ H, Ex H0 H → SqL X.K H a vs) (hfr : A.frames = X.A.frames) (hr : Room (k + 1) A)
    (hg : A.guards = some g) (hca : Clear g a) (hcl : ∀ b ∈ as, Clear g b) (hu : A.units + (d + 1) < cLine) (hna : a ∉ as) (hT : Shw X k d as H0 vs ts) (hsz : n + (listText ts).length ≤ sizeLine) (e0 : Ex H0 H) (I : Inv X pins σ H s)
    (hR : ∀ H' s' u, Ex H H' → Inv X pins σ H' s' → R (.ok (.ret (.str (listText ts) u))) s') :
    wpAny (model X.prog X.w) A.in1 (Builtin.listReprAt n ⟨[.ref a], []⟩) (fun fin s' => match fin with | .done f => R (.ok f) s' | .again c' => c'.quiet = true ∧ codeAny (model X.prog X.w) A c' R s') (fun e s' => R (.error e) s') s := by
  obtain ⟨its, rv, ⟨o, na, ho, hc, hd0, hd⟩, _⟩ := I.list (hL H e0)
  obtain ⟨x, l, rfl⟩ : ∃ x l, its = x :: l := by
    cases its with
    | nil => cases rv; exact absurd rfl h0
    | cons x l => exact ⟨x, l, rfl⟩
  refine wpAny_list_repr_head (A := A.in1) hg (fun v rest kw hm => listSameRef_of_ne (hca _ _ _ _ hm)) ho hd ?_
  refine wpAny_bind (m := newList []) (wpAny_newObj_type ?_)
  refine wpAny_pure ⟨F.quiet_list_repr_loop _, ?_⟩
  have J : Inv X ((s.heap.objs.size, pO #[] 0) :: pins) σ H { s with heap := s.heap.push (pO #[] 0) } :=
    ClX.pin_new (t' := s.toks) I (fun _ _ z => Heap.get?_push_of_some _ z) (Nat.le_refl _) (Heap.get?_push_size s.heap rfl) (fun v z => nomatch z)
  exact rep_loop (P := s.heap.objs.size) (pins := pins) (σ := σ) (Nat.ne_of_lt (Heap.lt_size ho)) (FbM.rec_new I (Nat.le_refl _)) hL hfr hr hg hcl hu hna hT hsz _ 0 _ H #[] 0 [] rfl (Nat.zero_le _) e0 J rfl (by simp) hR
/-- a list's repr, called -/
theorem call_rep {pins : List (Addr × Obj)} {σ : L2.St} {H : Hp} {s : Shared} {Q : Value → Shared → Prop} {E : Value → Shared → Prop} (h0 : vs ≠ []) (hL : ∀ H, Ex H0 H → SqL X.K H a vs) (hfr : A.frames = X.A.frames) (hr : Room (k + 1) A)
    (hg : A.guards = some g) (hca : Clear g a) (hcl : ∀ b ∈ as, Clear g b) (hu : A.units + (d + 1) < cLine) (hna : a ∉ as) (hT : Shw X k d as H0 vs ts) (hsz : (listText ts).length ≤ sizeLine) (e0 : Ex H0 H) (I : Inv X pins σ H s)
    (hQ : ∀ H' s' u, Ex H H' → Inv X pins σ H' s' → Q (.str (listText ts) u) s') : wpAny (model X.prog X.w) A (call (.builtin "list.__repr__") [.ref a]) Q E s := by
  obtain ⟨its, rv, ⟨o, na, ho, hc, hd0, hd⟩, _⟩ := I.list (hL H e0)
  exact wpAny_call (codeAny_call_builtin F.slot_list_repr.plain F.entry_list_repr (F.slot_list_repr.check _ _ _ _ _ _ _ _ ⟨o, ho, hc⟩ (F.args_list_repr_1 _)
    (rep_at (n := 0) (R := callEnd Q E) h0 hL hfr hr hg hca hcl hu hna hT (by omega) e0 I hQ)))
theorem RepJ.list (h0 : vs ≠ []) (hL : ∀ H, Ex H0 H → SqL X.K H a vs) (hna : a ∉ as) (hT : Shw X k d as H0 vs ts) : RepJ X (k + 1) (d + 1) (a :: as) H0 (.ref a) (listText ts) := by
  intro n hn A g E pins σ H s Q hfr hr hg hcl hu e I q
  obtain ⟨its, rv, ⟨o, na, ho, hc, hd0, hd⟩, _⟩ := I.list (hL H e)
  refine wpAny_pyReprUnder_ref (by omega) (wpAny_pyReprObjUnder_twin (twin := "list.__repr__.under") ⟨o, ho, hc⟩ F.slot_list_repr.toG rfl (by omega) ?_)
  refine call_twin_plain F.plain_list_repr_under F.entry_list_repr_under F.check_list_repr_under ⟨o, ho, hc⟩ F.slot_list_repr.toG (F.args_list_repr_1 _) ?_
  exact rep_at (R := callEnd _ E) h0 hL hfr hr hg (hcl a (.head _)) (fun b hb => hcl b (.tail _ hb)) hu hna hT hn e I fun H' s' u ex I' => ⟨⟨_, _, rfl⟩, _, _, rfl, q H' s' ex I'⟩
/-- repr of a list -/
def rReprL (X : Cx) (k d : Nat) (xs : List V) (H : Hp) (Q : VK) : Prop := ∃ (a : Addr) (vs : List V) (as : List Addr) (ts : List Str), xs = [.ref a] ∧ vs ≠ [] ∧ H a = some (.lst vs) ∧ a ∉ as ∧ Shw X k d as H vs ts ∧ (listText ts).length ≤ sizeLine ∧
  ∀ H', Ex H H' → Q (.str (listText ts)) H'
theorem call_repr (hg : X.A.guards = some []) (hr : Room (k + 2) X.A) (hd : d ≤ 100) : CallR X (.builtin "repr") (rReprL X k d) := by
  intro pins s σ H xs us Q I r h
  obtain ⟨a, vs, as, ts, rfl, h0, ha, hna, hT, hsz, q⟩ := h
  obtain ⟨u, rfl, ru⟩ := vals1 r
  cases ru
  have hL : ∀ H', Ex H H' → SqL X.K H' a vs := fun H' e => SqL.of (e _ _ ha)
  obtain ⟨its, rv, ⟨o, na, ho, hc, hd0, hd'⟩, _⟩ := I.list (hL H (Same.refl _))
  have hun := hr.un
  refine call_repr_slot (by omega) ⟨o, ho, hc⟩ F.slot_list_repr.toG ?_
  exact call_rep (g := []) (X := X) h0 hL rfl hr.in1 hg (Clear.nil _) (fun b _ => Clear.nil b) (show X.A.units + 1 + (d + 1) < cLine by omega) hna hT hsz (Same.refl _) I fun H' s' u ex I' => ⟨_, _, rfl, .str (listText ts), H', I', ⟨_, rfl⟩, q H' ex⟩
end
theorem call_repr_str {X : Cx} : CallR X (.builtin "repr") (fun xs H Q => ∃ z : Str, xs = [.str z] ∧ (reprText z).length ≤ sizeLine ∧ Q (.str (reprText z)) H) := by
  intro pins s σ H xs us Q I r h
  obtain ⟨z, rfl, hz, q⟩ := h
  obtain ⟨u, rfl, t, rfl⟩ := vals1 r
  exact PySem.P.repr_of_str ⟨.str _, H, I.tok _, ⟨_, rfl⟩, q⟩ hz
/-! ### flat values, and containers of them -/
def flT : V → Str
  | .non => "None"
  | .bl b => (if b then "True" else "False" : String)
  | .int i => (toString i : String)
  | .str z => reprText z
  | _ => ""
def FlV : V → Prop
  | .non => True
  | .bl _ => True
  | .int i => i.natAbs.log2 < 1920
  | .str z => (reprText z).length ≤ 5000
  | _ => False
section
variable {X : Cx} {k d : Nat} {H0 : Hp} {a : Addr} {prog : Program} {w : World}
theorem fl_is {v : V} {u : Value} (h : FlV v) (r : RelV v u) : ReprIs prog w u (flT v) := by
  cases v with
  | non => cases r; exact ReprIs.none
  | bl b =>
    cases r
    cases b <;> exact ReprIs.bool _
  | int i => obtain ⟨t, rfl⟩ := r; exact ReprIs.int t h
  | str z => obtain ⟨t, rfl⟩ := r; exact ReprIs.str z t (Nat.le_trans h (by decide))
  | _ => exact h.elim
theorem RepJ.flat {v : V} (h : FlV v) : ∀ u, RelV v u → RepJ X k d [] H0 u (flT v) := fun _ r => .is (fl_is h r)
theorem Shw.flat {as : List Addr} : ∀ {vs : List V}, (∀ v ∈ vs, FlV v) → Shw X k d as H0 vs (vs.map flT)
  | [], _ => .nil
  | v :: vs, h => .cons (fun u r => (RepJ.flat (h v List.mem_cons_self) u r).more fun b hb => nomatch hb) (Shw.flat fun x hx => h x (List.mem_cons_of_mem _ hx))
theorem RepJ.nilL (h : H0 a = some (.lst [])) : RepJ X k d [] H0 (.ref a) "[]" := .ofK fun pins σ H s e I => by
  obtain ⟨its, rv, ⟨o, na, ho, hc, hd0, hd⟩, _⟩ := I.list (SqL.of (K := X.K) (e _ _ h))
  cases rv
  exact ReprK.listEmpty ho hc hd
theorem RepJ.flatL {vs : List V} (h : H0 a = some (.lst vs)) (h0 : vs ≠ []) (hf : ∀ v ∈ vs, FlV v) : RepJ X (k + 1) (d + 1) [a] H0 (.ref a) (listText (vs.map flT)) :=
  .list h0 (fun H e => SqL.of (e _ _ h)) (fun z => nomatch z) (.flat hf)
theorem all_flat {as : List Addr} {h₀ : Heap} : ∀ {vs : List V} {us : List Value}, Vals vs us → (∀ v ∈ vs, FlV v) → ReprAllK prog w as h₀ d us (vs.map flT)
  | _, _, .nil, _ => .nil
  | _, _, .cons r q, h => .cons (ReprK.of_is (fl_is (h _ List.mem_cons_self) r) _ _ _) (all_flat q fun x hx => h x (List.mem_cons_of_mem _ hx))
theorem RepJ.flatT {vs : List V} (h : H0 a = some (.tup vs)) (hf : ∀ v ∈ vs, FlV v) : RepJ X k (d + 1) [a] H0 (.ref a) (tupleText (vs.map flT)) := .ofK fun pins σ H s e I => by
  obtain ⟨its, rv, ⟨o, ho, hc, n, hd⟩, _⟩ := I.tuple (SqT.of (K := X.K) (e _ _ h))
  exact ReprK.tuple ho hc hd (fun z => nomatch z) (all_flat (by simpa using rv) hf)
def kvT (p : Key × V) : Str := flT (kV p.1) ++ ": " ++ flT p.2
theorem ents_flat {as : List Addr} {h₀ : Heap} : ∀ {kvs : List (Key × V)} {ws : List (Key × Value)} {es : List DictEntry}, KV kvs ws → Pairs (mixKind prog w) es ws → (∀ p ∈ kvs, FlV (kV p.1) ∧ FlV p.2) → ReprEntriesK prog w as h₀ d es (kvs.map kvT)
  | _, _, _, .nil, .nil, _ => .nil
  | p :: _, q :: _, e :: _, .cons r rs, .cons h1 h2 h3, h => by
    refine .cons (ReprK.of_is (fl_is (h _ List.mem_cons_self).1 ?_) _ _ _) (ReprK.of_is (fl_is (h _ List.mem_cons_self).2 ?_) _ _ _) (ents_flat rs h3 fun x hx => h x (List.mem_cons_of_mem _ hx))
    · rw [r.1]
      rcases keyIs_shape h1 with ⟨i, t, e1, e2⟩ | ⟨x, t, e1, e2⟩
      · rw [e1, e2]; exact ⟨t, rfl⟩
      · rw [e1, e2]; exact ⟨t, rfl⟩
    · rw [h2]
      exact r.2
theorem RepJ.flatD {kvs : List (Key × V)} (h : H0 a = some (.dK kvs)) (hf : ∀ p ∈ kvs, FlV (kV p.1) ∧ FlV p.2) : RepJ X k (d + 1) [a] H0 (.ref a) (dictText (kvs.map kvT)) := .ofK fun pins σ H s e I => by
  obtain ⟨_, hs, ws, rw', o, es, ep, ho, hx, hd, _, hp, _⟩ := dk_of I.hok (e _ _ h)
  exact ReprK.dict ho hx.1 hd hs (fun z => nomatch z) (ents_flat rw' hp hf)
end
end Ab

set_option Elab.async false
set_option linter.all false
set_option maxRecDepth 100000
set_option maxHeartbeats 4000000
/-! AbE: the law's def called by the head, no repr running around. -/
namespace Ab
open PySem PySem.Spec PyProof.Rows L2
section
variable {P : Program} {w : World} {K : PySem.W.Frag} {mg mb : Str → Option Value} {k : Nat} {f a : Addr} {fd : FuncData} {x : Str} {sp : Sp} {s1 : Shared} {us : List Value} {ns : List Int}
/-- nothing but the script is tracked -/
structure Alone (K : PySem.W.Frag) (P : Program) (w : World) (H : Hp) (a : Addr) (ns : List Int) (h : Heap) : Prop where
  only : Only H
  seq : SqL K H a (ns.map V.int)
  ok : HOk P w H h
  at_ : ∀ b u, H b = some u → b = a ∧ K.lookup a = none
theorem alone (KX : K.In s1.heap) (ha : s1.heap.get? a = some { cls := .type "list", data := .seq us.toArray }) (hi : IntsAre us ns) (hl : ns.length ≤ sizeLine) : ∃ H, Alone K P w H a ns s1.heap := by
  have rv := vals_ints hi
  have lenU := hi.length
  cases hk : K.lookup a with
  | some o =>
    have e := KX a o hk
    rw [ha] at e
    cases e
    refine ⟨fun _ => none, fun _ => .inl rfl, .inr ⟨_, us.toArray, _, hk, rfl, rfl, rfl, ?_, by simpa using rv⟩, fun b u z => ?_, fun b u z => ?_⟩
    · rw [List.size_toArray, lenU]
      exact hl
    · exact absurd (show (none : Option HO) = some u from z) nofun
    · exact absurd (show (none : Option HO) = some u from z) nofun
  | none =>
    let ob : Obj := { cls := .type "list", data := .seq us.toArray }
    have at1 : ∀ b u, (if b = a then some (HO.frz ob (.lst (ns.map V.int))) else none) = some u → b = a ∧ u = .frz ob (.lst (ns.map V.int)) := fun b u z => by
      split at z
      · rename_i q
        exact ⟨q, (Option.some.inj z).symm⟩
      · cases z
    refine ⟨fun b => if b = a then some (.frz ob (.lst (ns.map V.int))) else none, fun b => ?_, .inl (.inr ⟨ob, if_pos rfl⟩), fun b u z => ?_, fun b u z => ⟨(at1 b u z).1, hk⟩⟩
    · by_cases q : b = a
      · exact .inr ⟨ob, _, if_pos q⟩
      · exact .inl (if_neg q)
    · obtain ⟨rfl, rfl⟩ := at1 b u z
      exact ⟨ha, by rw [List.length_map]; exact hl, us, _, rv, ha⟩
theorem law_q (KX : K.In s1.heap) (hns : s1.heap.Ns mainGlobals mg) (hb : s1.heap.Ns builtinsNs mb) (hbb : ∀ y : Str, y ≠ "__name__" → mb y = bootBuiltins y) (hlim : s1.heap.NoLimit) (hg : s1.gens = #[])
    (ha : s1.heap.get? a = some { cls := .type "list", data := .seq us.toArray }) (hi : IntsAre us ns) (hl : ns.length ≤ sizeLine) (hr : Room k callerA)
    (F : ∀ base : Heap, K.In base → base.Ns mainGlobals mg → Fq true P w K mg base CX0 k f fd [x] sp) (hbind : ∀ (s : Shared) (u : Value), BindsTo s fd ⟨[u], []⟩ [(x, u)])
    (hsp : ∀ H : Hp, SqL K H a (ns.map V.int) → sp [.ref a] H (fun v _ => v = .bl true) E0) :
    codeAny (model P w) callerA (.call (.ref f) ⟨[.ref a], []⟩) (fun r s' => r = .ok (.ret (.bool true)) ∧ OldK s1.heap s'.heap ∧ s'.os = s1.os ∧ AllBare s'.gens) s1 := by
  obtain ⟨H, al⟩ := alone (P := P) (w := w) KX ha hi hl
  have out : ∀ {b : Addr} {o : Obj}, s1.heap.get? b = some o → H b = none → (hidT s1.heap H).get? b = some o := fun e n => hidT_get e n
  have dct : ∀ {b : Addr} {o : Obj} {es : Array DictEntry} {ep : Nat}, s1.heap.get? b = some o → o.data = .dict es ep → H b = none := fun {b o es ep} e d => by
    cases q : H b with
    | none => rfl
    | some u =>
      obtain ⟨rfl, _⟩ := al.at_ b u q
      rw [ha] at e
      cases e
      exact nomatch (show Data.seq us.toArray _ = Data.dict es ep from d)
  have nsK : ∀ {b : Addr} {m : Str → Option Value}, s1.heap.Ns b m → (hidT s1.heap H).Ns b m := fun ⟨o, es, ep, e, d, r⟩ => ⟨o, es, ep, out e (dct e d), d, r⟩
  have inK : K.In (hidT s1.heap H) := fun b o e => out (KX b o e) (by
    cases q : H b with
    | none => rfl
    | some u =>
      obtain ⟨rfl, z⟩ := al.at_ b u q
      rw [z] at e
      cases e)
  obtain ⟨mc, l1, l2⟩ := hlim
  have md : Mod K mg (hidT s1.heap H) := ⟨inK, nsK hns, ⟨mb, nsK hb, hbb⟩, mc, nsK l1, l2⟩
  have e0 : Env0 P w K mg (hidT s1.heap H) callerA [] s1 H := ⟨rfl, md, fun b o e => of_hidT e, Nat.le_of_eq (hidT_size _ _), trivial, fun b z => (nomatch (show b ∈ ([] : List Addr) from z)), al.ok, .of_eq hg⟩
  refine codeAny_mono ((F _ inK (nsK hns)).go callerA [] s1 H ⟨[.ref a], []⟩ [.ref a] [.ref a] _ _ (fun _ => rfl) hr e0 (hbind s1 (.ref a)) (.cons rfl .nil) (hsp H al.seq)) fun r s' h => ?_
  cases r with
  | error e => exact False.elim h
  | ok fl =>
    cases fl with
    | ret u =>
      obtain ⟨v, H', os, bare, un, hok', r', q⟩ := h
      obtain rfl : v = .bl true := q
      obtain rfl : u = Value.bool true := r'
      refine ⟨rfl, OldK.of_keep fun b o e => ?_, os, bare⟩
      rcases al.only b with z | ⟨ob, xs, z⟩
      · exact un.keep b o e z (fun y => (nomatch (show b ∈ ([] : List Addr) from y))) List.not_mem_nil
      · have e1 := (al.ok b _ z).1
        have e2 := (hok' b _ (un.frzs b ob _ z)).1
        rw [e] at e1
        cases e1
        exact e2
    | _ => exact False.elim h
end
/-- a function object has one datum -/
theorem fd_eq {K : PySem.W.Frag} {x qual x' qual' : Str} {params params' : Arguments} {body body' : List Stmt} {scope scope' : Scope} {dvs dvs' : List V} {kws kws' : List (Str × V)} {f : Addr} {fd fd' : FuncData}
    (F : FunD K x qual params body scope dvs kws f fd) (F' : FunD K x' qual' params' body' scope' dvs' kws' f fd') : fd' = fd := by
  obtain ⟨oc, od, dV, kV, doc, pm, an, cdv, ct, osl, rfl, lk, _⟩ := F.ex
  obtain ⟨oc', od', dV', kV', doc', pm', an', cdv', ct', osl', rfl, lk', _⟩ := F'.ex
  rw [lk] at lk'
  have e := Option.some.inj lk'
  injection e with _ _ e _
  injection e with e
  exact e.symm
/-- what the head leaves, from the law's def -/
theorem walk_q {l : PySem.W.OpenLaw} {n k : Nat} {q : Program} {loose : List Str} {XP : (Str → Option Value) → Heap → Prop} {YP : World → Heap → Prop} {d : DefRec} {x : Str}
    (hn : l.most = some n) (hn2 : n ≤ sizeLine) (hdf : d.params.defaults = []) (hr : Room k callerA)
    (F : ∀ (w : World) (mg : Str → Option Value) (f : Addr) (h : Heap), YP w h → h.Ns mainGlobals mg → mg d.name = some (.ref f) → ∃ (K : PySem.W.Frag) (fd : FuncData) (sp : Sp), K.In h ∧
      (∀ (s : Shared) (u : Value), BindsTo s fd ⟨[u], []⟩ [(x, u)]) ∧ (∀ (H : Hp) (a : Addr) (ns : List Int), ns.length ≤ n → SqL K H a (ns.map V.int) → sp [.ref a] H (fun v _ => v = .bl true) E0) ∧
      ∀ base : Heap, K.In base → base.Ns mainGlobals mg → Fq true l.prog w K mg base CX0 k f fd [x] sp) :
    PySem.W.WalkO q loose XP YP l.row.toRowW d [] (fun f vs => PySem.call f vs) := by
  refine Att.attach_call hn hdf fun w s0 s1 mg mb f o pm cd doc a us ns G Y ho hd hcd hmg hobj hints hlen hg => ?_
  obtain ⟨K, fd, sp, KX, hb, hsp, hF⟩ := F w mg f _ Y G.T.g hmg
  exact law_q KX G.T.g G.T.b G.T.builtins G.T.nolimit hg hobj hints (Nat.le_trans hlen hn2) hr hF hb fun H hS => hsp H a ns hlen hS
end Ab

set_option Elab.async false
set_option linter.all false
set_option maxRecDepth 100000
set_option maxHeartbeats 4000000
/-! AbX: own exceptions over ValueError, their __init__ with super().__init__('..'). -/
namespace Ab
open PySem PySem.Spec PyProof.Rows L2
/-! ### self.f as a target, self an exception that is being made -/
def gOst (K : PySem.W.Frag) (f : Str) (to : TE) : TG := fun v σ H Q => to σ H fun x H2 => ∃ a C : Addr, x = .ref a ∧ OexC K C ∧ PySem.W.findIn K (.ref C) f = some none ∧
  ((H2 a = some (exo a C none) ∧ ∀ dx, H2 dx = none → dx ≠ a → Q σ (upd (upd H2 dx (exd dx [(f, v)])) a (exo a C (some dx)))) ∨
    ∃ (dx : Addr) (fs : List (Str × V)), H2 a = some (exo a C (some dx)) ∧ H2 dx = some (exd dx fs) ∧ fs.length ≤ 900 ∧ Q σ (upd H2 dx (exd dx ((f, v) :: fs))))
theorem pg_ost {X : Cx} {o : Expr} {to : TE} {f : Str} {pos : Pos} (ho : PE X o to) : PG X (.Attribute o f pos) (gOst X.K f to) := by
  refine ⟨fun pins s σ H v u Q I r h => ?_⟩
  rw [assign_Attribute]
  refine wpAny_bind (wpAny_holding (thn (ho.run pins s σ H _ I h) fun ov s1 ⟨x, H2, I2, r2, a, C, ex, T, hno, q⟩ => ?_))
  subst ex
  obtain rfl : ov = Value.ref a := r2
  refine wpAny_bind (wpAny_standAt (wpAny_bind (wpAny_holding ?_)))
  rcases q with ⟨ea, q⟩ | ⟨dx, fs, ea, ed, hl, q⟩
  · exact ost_new T I2 ea hno r fun dx s' n ne J => wpAny_release ⟨σ, _, J, q dx n ne⟩
  · exact ost_old T I2 ea ed hl hno r fun s' J => wpAny_release ⟨σ, _, J, q⟩
/-! ### ValueError.__init__, bound -/
section
variable {X : Cx} {pins : List (Addr × Obj)} {σ : L2.St} {H : Hp} {s : Shared} {a C u : Addr} {A : Around} {E : Value → Shared → Prop}
theorem call_mw {rest : List Value} {Q : Value → Shared → Prop} (T : OexC X.K C) (I : Inv X ((u, PySem.W.kxs_mw "ValueError.__init__" a) :: pins) σ H s) (e : H a = some (exo a C none)) (hl : rest.length ≤ sizeLine)
    (h : ∀ s', Inv X pins σ H s' → Q .none s') : wpAny (model X.prog X.w) A (call (.ref u) rest) Q E s := by
  obtain ⟨nm, q, N, bs, bm, sn, sub, ab, col, dd, k0, k1, k2, k3, k5, hC, hbm⟩ := T.cls
  obtain ⟨t1, ho⟩ := exo_at I.hok e
  have hu := ClX.pin_at I
  have I0 := ClX.unpin I
  have hC' := I.kIn _ _ hC
  obtain ⟨hp, g, d, t, os⟩ := s
  refine wpAny_call (codeAny_of_tree ?_)
  show wpAny _ A.in1 (callAny (.ref u) ⟨rest, []⟩) _ _ _
  simp only [callAny]
  refine wpAny_bind (wpAny_load hu ?_)
  simp only [PySem.W.kxs_mw, show (Value.type "method-wrapper" == Value.type "method" || Value.type "method-wrapper" == Value.type "builtin_function_or_method" || Value.type "method-wrapper" == Value.type "method-wrapper") = true by decide, if_true]
  refine PySem.W.KFB.if_so (by decide) ?_
  refine wpAny_bind (ESX.check_bound F.excBase_ValueError hC' ho rfl ?_)
  refine wpAny_bind (wpAny_pure (wpAny_pure ?_))
  refine ⟨Code.quiet_builtin _ (by decide +kernel), codeAny_builtin F.excBase_ValueError.initEntry ?_⟩
  rw [Around.under_plainId F.excBase_ValueError.init.plain _]
  wp_walk
  have hx : ((hp.push (PySem.W.kdv_tup rest)).update a (Obj.mapFields fun z => z.setIfInBounds 0 (.ref hp.objs.size))).get? a = some ({ cls := .ref C, dict := none, data := .fields #[.ref hp.objs.size, .none, .none, .none, .bool false, .none] } : Obj) := by
    rw [Heap.get?_update_self _ (Heap.get?_push_of_some _ ho) rfl]
    rfl
  have J := I0.write (t' := t) (x := a) (e := a) (o := exo a C none) (by rw [e]; exact True.intro) (.inl rfl) (fun b o hb z => by rw [Heap.get?_update_other _ _ (Ne.symm hb)]; exact Heap.get?_push_of_some _ z) ⟨_, hx⟩ (exo_ok hx)
  have eu : upd H a (exo a C none) = H := by
    funext b
    by_cases hb : b = a
    · rw [hb, upd_same, e]
    · rw [upd_ne hb]
  rw [eu] at J
  exact h _ J
end
/-! ### a def with the cell of its class -/
abbrev fnC (x qual : Str) (params : Arguments) (body : List Stmt) (scope : Scope) (cc : Addr) (kV doc pm : Value) (an : Option Addr) (cdv ct : Value) : FuncData :=
  { PySem.W.fnOf x qual params body scope .none kV doc pm an cdv ct with closure := [("__class__", cc)] }
def cutFile : Str := "/claim/cut.py"
structure XFun (K : PySem.W.Frag) (d : He.DefD) (C : Addr) (fd : FuncData) : Prop where
  ex : ∃ (oc : Value) (od : Option Addr) (kV doc pm : Value) (an : Option Addr) (cda cc : Addr) (ct : Value) (osl : Array (Option Value)) (ccl : Value) (cdd : Option Addr) (vs : Array Value) (ccs : Array (Option Value)) (tf : Tok) (cl : Value) (cld : Option Addr) (csl : Array (Option Value)),
    fd = fnC d.name d.qual d.params d.body d.scope cc kV doc pm an (.ref cda) ct ∧ K.lookup (He.fAd K d.at_) = some ⟨oc, od, .func fd, osl⟩ ∧ PySem.W.codeIn K (.ref cda) d.qual = true ∧
    K.lookup cda = some ⟨ccl, cdd, .fields vs, ccs⟩ ∧ vs[2]? = some (.str cutFile tf) ∧ K.lookup cc = some ⟨cl, cld, .cell (some (.ref C)), csl⟩
/-- what is asked of the class -/
structure XCls (K : PySem.W.Frag) (C : Addr) : Prop where
  oex : OexC K C
  mro : PySem.W.mroIn K C (.ref C) = some true
  sup : PySem.W.ks_superIn K C C "__init__" = some (some (.builtin "ValueError.__init__"))
  sub : PySem.W.subIn K (.ref C) (.type "ValueError") = some true
  opq : PySem.W.nsIn K cStatics "thirdparty.any" = some none
/-- what is asked of the program -/
structure PFile (P : Program) : Prop where
  file : ((P.main.file : Str) == cutFile) = true
  sup : (P.main.scope.names.lookup ("super" : Str)).isSome = false
structure IScope (N ps : List Str) (sc : Scope) : Prop where
  kind : sc.kind = .function
  co : sc.isCoroutine = false
  gen : sc.isGenerator = false
  nd : N.Nodup
  pre : N.take ps.length = ps
  par : ∀ x ∈ ps, sc.names.lookup x = some .local
  nocell : ∀ y ∈ sc.names, y.2 ≠ .cell
  free : ∀ y ∈ sc.names, y.2 = .free → y.1 = "__class__"
  cls : sc.names.lookup ("__class__" : Str) = some .free
  sup : sc.names.lookup ("super" : Str) = some .globalImplicit
def envI (qual : Str) (scope : Scope) (L f cda cc : Addr) : Env :=
  { scope := scope, locals := L, globals := mainGlobals, cells := [("__class__", cc)], qual := qual ++ ".<locals>.", func := some f, code := .ref cda, frame := some L, builtins := builtinsNs }
def cxI (P : Program) (w : World) (K : PySem.W.Frag) (mg : Str → Option Value) (base : Heap) (N : List Str) (qual : Str) (scope : Scope) (f cda cc : Addr) (A : Around) (outer : List Env) (s : Shared) (H : Hp) : Cx where
  prog := P
  w := w
  K := K
  mg := mg
  base := base
  A := A.deeper (envI qual scope s.heap.objs.size f cda cc)
  N := N
  s_0 := s
  H_0 := H
  env := envI qual scope s.heap.objs.size f cda cc
  outer := outer
  stack := envI qual scope s.heap.objs.size f cda cc :: outer
  ex := []
  calm := true
  fn := fun _ => false
  pn := []
  xe := fun _ _ => False
theorem lookup_mem {β : Type} : ∀ {l : List (Str × β)} {k : Str} {v : β}, (l.map (·.1)).Nodup → (k, v) ∈ l → l.lookup k = some v
  | [], _, _, _, h => nomatch h
  | (k', v') :: l, k, v, nd, h => by
    rw [List.lookup_cons]
    rcases List.mem_cons.mp h with e | h
    · cases e
      simp
    · have nd' : k' ∉ l.map (·.1) ∧ (l.map (·.1)).Nodup := by simpa using nd
      have ne : k ≠ k' := fun e => nd'.1 (List.mem_map.mpr ⟨(k, v), h, e⟩)
      rw [show (k == k') = false from beq_eq_false_iff_ne.mpr ne]
      exact lookup_mem nd'.2 h
theorem zip_lookup {ps : List Str} {us : List Value} {i : Nat} {y : Str} {u : Value} (nd : ps.Nodup) (hl : ps.length = us.length) (hp : ps[i]? = some y) (hu : us[i]? = some u) : (ps.zip us).reverse.lookup y = some u := by
  refine lookup_mem ?_ ?_
  · have e : (ps.zip us).map (·.1) = ps := by
      have := List.map_fst_zip (l₁ := ps) (l₂ := us) (by omega)
      exact this
    rw [List.map_reverse, e]
    exact List.pairwise_reverse.mpr (nd.imp fun h => Ne.symm h)
  · rw [List.mem_reverse]
    refine List.mem_of_getElem? (i := i) ?_
    rw [List.getElem?_zip_eq_some]
    exact ⟨hp, hu⟩
theorem inv_i {P : Program} {w : World} {K : PySem.W.Frag} {mg : Str → Option Value} {base h0 : Heap} {N ps : List Str} {qual : Str} {scope : Scope} {f cda cc : Addr} {A : Around} {outer : List Env} {s : Shared} {H : Hp} {us : List Value} {vs : List V} {tk : Nat}
    {cl : Value} {cld : Option Addr} {csl : Array (Option Value)} {cv : Value}
    (S : IScope N ps scope) (hd : A.handled = none) (e0 : Env0 P w K mg base A outer s H) (hl : vs.length = ps.length) (r : Vals vs us) (hc : K.lookup cc = some ⟨cl, cld, .cell (some cv), csl⟩)
    (hns : h0.Ns s.heap.objs.size (fun x => (ps.zip us).reverse.lookup x)) (hk : ∀ b o, s.heap.get? b = some o → h0.get? b = some o) :
    Inv (cxI P w K mg base N qual scope f cda cc A outer s H) [] (start N vs) H { s with heap := h0, toks := tk } := by
  have hpl : ps.length ≤ N.length := by have := congrArg List.length S.pre; rw [List.length_take] at this; omega
  have no : ∀ b : Addr, b ∉ (cxI P w K mg base N qual scope f cda cc A outer s H).ex := fun b z => nomatch (show b ∈ ([] : List Addr) from z)
  have cell1 : ∀ {y : Str} {c : Addr}, (cxI P w K mg base N qual scope f cda cc A outer s H).env.cells.lookup y = some c → y = "__class__" ∧ c = cc := fun {y c} h => by
    have h' : ([("__class__", cc)] : List (Str × Addr)).lookup y = some c := h
    rw [List.lookup_cons] at h'
    by_cases e : y = "__class__"
    · rw [show (y == "__class__") = true from beq_iff_eq.mpr e] at h'
      exact ⟨e, (Option.some.inj h').symm⟩
    · rw [show (y == "__class__") = false from beq_eq_false_iff_ne.mpr e] at h'
      cases h'
  have hcb := e0.bs cc _ (e0.mod.kin _ _ hc)
  refine ⟨⟨e0.mod, S.kind, rfl, rfl, Nat.le_refl _, fun y z c h1 h2 => (cell1 h1).1.trans (cell1 h2).1.symm, fun y hy => ?_, fun y c h => (nomatch h), fun _ => hd, Around.frames_deeper e0.frames, .inr ⟨rfl, rfl⟩, fun b z => absurd z (no b), e0.bs, e0.bsz, fun b _ _ => no b, fun b z => absurd z (no b), e0.funs, e0.frf⟩,
    rfl, e0.bare, Un.kept hk, ⟨_, hns, fun i y v h1 h2 h3 => ?_⟩, fun y c h => ?_, e0.hok.fresh (Nat.le_refl _), fun y c h => ?_, fun p hp => (nomatch (show p ∈ ([] : List (Addr × Obj)) from hp)), e0.hok.kept hk, ?_⟩
  · have hy' : scope.names.lookup y = some .cell ∨ scope.names.lookup y = some .free := hy
    rcases hy' with z | z
    · exact absurd rfl (S.nocell _ (PySem.mem_of_lookup z))
    · have := S.free _ (PySem.mem_of_lookup z) rfl
      subst this
      exact ⟨cc, rfl⟩
  · have hi : i < vs.length := by
      unfold L2.start at h2
      by_cases hi : i < vs.length
      · exact hi
      · rw [List.getElem?_append_right (by simpa using hi), List.getElem?_replicate] at h2
        split at h2 <;> cases h2
    have ha : vs[i]? = some v := by
      unfold L2.start at h2
      rw [List.getElem?_append_left (by simpa using hi), List.getElem?_map] at h2
      cases e : vs[i]? with
      | none => rw [e] at h2; cases h2
      | some a => rw [e] at h2; cases h2; rfl
    obtain ⟨u, hu, rv⟩ := r.get ha
    have hp : ps[i]? = some y := by
      rw [← S.pre, List.getElem?_take_of_lt (by omega)]
      exact h1
    have ndP : ps.Nodup := by rw [← S.pre]; exact S.nd.sublist (List.take_sublist _ _)
    exact ⟨u, rv, .inl ⟨S.par y (List.mem_of_getElem? hp), zip_lookup ndP (by rw [← hl]; exact r.length) hp hu⟩⟩
  · obtain ⟨_, rfl⟩ := cell1 h
    exact ⟨_, _, hk _ _ hcb.1, rfl⟩
  · obtain ⟨_, rfl⟩ := cell1 h
    exact hcb.2
  · unfold L2.start
    show _ = N.length
    rw [List.length_append, List.length_map, List.length_replicate]
    omega
/-! ### super().__init__('..'), then the rest -/
section
variable {P : Program} {w : World} {K : PySem.W.Frag} {mg : Str → Option Value} {base : Heap} {N ps : List Str} {C : Addr} {d : He.DefD} {fd : FuncData} {k : Nat} {sp : Sp}
theorem XFun.ok {rest : List Stmt} {z : Str} {j : Nat} {p0 p1 p2 p3 p4 p5 : Pos} (F : XFun K d C fd) (S : IScope N ps d.scope) (T : XCls K C) (hP : PFile P) (hm : mg "super" = none)
    (hb : d.body = .Expr (.Call (.Attribute (.Call (.Name "super" p0) [] [] p1) "__init__" p2) [.Constant (.str z) j p3] [] p4) p5 :: rest)
    (he : ∀ env : Env, eval (.Call (.Attribute (.Call (.Name "super" p0) [] [] p1) "__init__" p2) [.Constant (.str z) j p3] [] p4) env = (do
      let ov ← attributeBase (.Call (.Name "super" p0) [] [] p1) "__init__" env (eval (.Call (.Name "super" p0) [] [] p1) env)
      standAt p2.atName
      let (f, first) ← holding [ov] (getMethod ov "__init__" (do return (← importBound (.Call (.Name "super" p0) [] [] p1) env).getD true))
      callWith p4 f first (backTo p4 (starEach [.Constant (.str z) j p3] env)) []))
    (hp : ∃ ar : Arg, (d.params.posonlyargs ++ d.params.args).head? = some ar ∧ ps[0]? = some ar.arg) (len : ∀ vs H Q E, sp vs H Q E → vs.length = ps.length)
    (hbody : ∀ (cda cc : Addr) (A : Around) (outer : List Env) (s : Shared) (H : Hp) (vs : List V) (Q : VK) (E : XK), sp vs H Q E →
      ∃ (a : Addr) (tl : List V), vs = .ref a :: tl ∧ H a = some (exo a C none) ∧ ∃ t, PSs (cxI P w K mg base N d.qual d.scope (He.fAd K d.at_) cda cc A outer s H) rest t ∧ t { nx := fun _ H' => Q .non H', rt := Q } (L2.start N vs) H) :
    FnOk P w K mg base CX0 (k + 1) (He.fAd K d.at_) fd ps sp := by
  obtain ⟨oc, od, kV, doc, pm, an, cda, cc, ct, osl, ccl, cdd, cvs, ccs, tf, cl, cld, csl, rfl, lk, hcd, hcode, hfile, hcell⟩ := F.ex
  refine ⟨len, fun A outer s H args us vs Q E hr e0 hbd r hsp => ?_⟩
  have KX : K.In s.heap := e0.mod.kin.keeps fun b o e => (e0.bs b o e).1
  have lim : s.heap.NoLimit := e0.mod.nolimit.keeps fun b o e => (e0.bs b o e).1
  obtain ⟨a, tl, rfl, ha, t, ht, hq⟩ := hbody cda cc A outer s H vs Q E hsp
  refine PySem.ks_codeAny_call_defAt (body := d.body) (binds := ps.zip us) hr.depth (KX _ _ lk) rfl lim (PySem.W.codeRec_of KX hcd) rfl hbd S.nocell (fun x hx => S.par x.1 (List.of_mem_zip hx).1) (fun h0 hns hk => ?_) S.co S.gen S.kind
  have I : Inv (cxI P w K mg base N d.qual d.scope (He.fAd K d.at_) cda cc A outer s H) [] (L2.start N (.ref a :: tl)) H { s with heap := h0, toks := s.toks + (ps.zip us).length } :=
    inv_i S hr.hd e0 (len _ _ _ _ hsp) r hcell hns hk
  have hrun : ∀ s2, Inv (cxI P w K mg base N d.qual d.scope (He.fAd K d.at_) cda cc A outer s H) [] (L2.start N (.ref a :: tl)) H s2 →
      wpAny (model P w) (A.deeper (envI d.qual d.scope s.heap.objs.size (He.fAd K d.at_) cda cc)) (execs rest (envI d.qual d.scope s.heap.objs.size (He.fAd K d.at_) cda cc))
        (fun f s' => CR CX0 outer P w H s Q E (.ok (.ret (match f with | .ret v => v | _ => .none))) s') (fun _ _ => False) s2 := by
    intro s2 I2
    refine wpAny_mono (ht.run [] s2 _ H _ I2 hq) (fun fl s' hs => ?_) fun e s' hs => hs
    cases fl with
    | ret u =>
      obtain ⟨v, σ', H', J, rv, q⟩ := hs
      exact ⟨v, H', J.os, J.bare, J.base, J.hok, rv, q⟩
    | next =>
      obtain ⟨σ', H', J, q⟩ := hs
      exact ⟨V.non, H', J.os, J.bare, J.base, J.hok, rfl, q⟩
    | brk => obtain ⟨_, _, _, q⟩ := hs; exact q.elim
    | cont => obtain ⟨_, _, _, q⟩ := hs; exact q.elim
  obtain ⟨ar, hp1, hp2⟩ := hp
  have hka : d.scope.names.lookup ar.arg = some .local := S.par _ (List.mem_of_getElem? hp2)
  have hN0 : N[0]? = some ar.arg := by
    have e := S.pre
    have h0 : 0 < ps.length := by
      rcases Nat.lt_or_ge 0 ps.length with h | h
      · exact h
      · rw [List.getElem?_eq_none h] at hp2; cases hp2
    rw [← hp2, ← e, List.getElem?_take_of_lt (by omega)]
  obtain ⟨m, hnm, hlm⟩ := I.loc
  obtain ⟨u0, ru0, lu0⟩ := hlm 0 ar.arg (.ref a) hN0 rfl (.inl hka)
  obtain rfl : u0 = Value.ref a := ru0
  have hma : m ar.arg = some (.ref a) := by
    rcases lu0 with ⟨_, h⟩ | ⟨h, _⟩
    · exact h
    · have h' : d.scope.names.lookup ar.arg = some .cell ∨ d.scope.names.lookup ar.arg = some .free := h
      rw [hka] at h'
      rcases h' with h' | h' <;> cases h'
  have X1 : K.In h0 := I.kIn
  show PySem.wpAt (model P w) (A.deeper (envI d.qual d.scope s.heap.objs.size (He.fAd K d.at_) cda cc)) (.func d.body (envI d.qual d.scope s.heap.objs.size (He.fAd K d.at_) cda cc)) (execs d.body (envI d.qual d.scope s.heap.objs.size (He.fAd K d.at_) cda cc)) _ _ _
  rw [hb]
  refine PySem.ks_wpAt_mono (E := fun _ _ => False) ?_ (fun _ _ z => z) fun _ _ z => z.elim
  refine PySem.ks_wpAt_execs_cons ?_
  refine PySem.ks_wpAt_Expr_any ?_ I.quiet (by rfl)
  refine PySem.ks_wpAt_MethodCall ?_ (he _)
  refine PySem.ks_wpAt_super_base (env := envI d.qual d.scope s.heap.objs.size (He.fAd K d.at_) cda cc) S.sup S.cls (by decide) rfl (X1 _ _ lk) rfl hp1 rfl (X1 _ _ hcode) rfl hfile hP.file hP.sup ?_
  obtain ⟨mb, b1, b2⟩ := I.mod.blt
  refine PySem.W.ks_loadName_global S.kind S.sup (Calls.loadGlobal_builtin (env := envI d.qual d.scope s.heap.objs.size (He.fAd K d.at_) cda cc) (I.mod.glob.keeps I.bk) hm (b1.keeps I.bk) ((b2 _ (by decide)).trans PyProof.Rows.Boot.«super») ⟨rfl, ?_⟩)
  refine wpAny_loadName_free S.kind S.cls rfl ⟨_, X1 _ _ hcell, rfl⟩ ?_
  refine wpAny_loadName_local S.kind hka hnm hma ?_
  obtain ⟨nm, qn, Nn, bs, bm, sn, sub, ab, col, dd, k0, k1, k2, k3, k5, hC, hbm⟩ := T.oex.cls
  have hcl : PySem.W.clsIn K C = some { name := nm, bases := bs, mro := .ref C :: bm, ns := Nn, qualname := qn, hasDict := true, slotNames := sn, subclasses := sub, abstract := ab, collection := col, hasDel := false } := by
    unfold PySem.W.clsIn
    rw [hC]
  obtain ⟨t1, hoa⟩ := exo_at I.hok ha
  refine PySem.ks_wpAny_isType_cls (X1 _ _ hC) rfl ⟨rfl, ?_⟩
  refine PySem.ks_wpAny_call_super (X1 _ _ hC) rfl hoa rfl (fun c z => nomatch z) (PySem.W.looks_mroIn X1 T.mro) fun h1 hso hk1 => ?_
  have I1 := I.kept (t' := s.toks + (ps.zip us).length) hk1
  have X2 : K.In h1 := I1.kIn
  have hsup := T.sup
  unfold PySem.W.ks_superIn at hsup
  rw [hcl, Option.bind_some] at hsup
  have hne : a ≠ C := fun z => by
    have h1 := X1 _ _ hC
    rw [← z, hoa] at h1
    cases h1
  have Ja : PySem.W.InstAt h1 a _ C none := ⟨hk1 _ _ hoa, rfl, rfl, trivial⟩
  refine PySem.W.kxs_getMethod PySem.W.kxs_ValueError hso (PySem.W.looks_opaque X2 T.opq) (l₀ := .ref C :: bm) (fun A Q E s k q => wpAny_bind ((PySem.W.looks_clsIn X2 hcl) A _ E s k (wpAny_pure q))) rfl X2 hsup (Ja.type.andThen (PySem.W.looks_subIn X2 T.sub)) hne (by decide) ?_
  have J2 : Inv (cxI P w K mg base N d.qual d.scope (He.fAd K d.at_) cda cc A outer s H) [(h1.objs.size, PySem.W.kxs_mw "ValueError.__init__" a)] (L2.start N (.ref a :: tl)) H
      ⟨h1.push (PySem.W.kxs_mw "ValueError.__init__" a), s.gens, s.drawn, s.toks + (ps.zip us).length + 1, s.os⟩ :=
    ClX.pin_new (s := ⟨h1, s.gens, s.drawn, s.toks + (ps.zip us).length, s.os⟩) (t' := s.toks + (ps.zip us).length + 1) I1 (fun _ _ z => Heap.get?_push_of_some _ z) (Nat.le_refl _) (Heap.get?_push_size h1 rfl) (fun v z => nomatch z)
  have hst : ∀ env : Env, starEach [.Constant (.str z) j p3] env = [(false, eval (.Constant (.str z) j p3) env)] := fun env => rfl
  rw [hst]
  refine PySem.W.kxs_callWith (i := "ValueError.__init__") (x := a) (by rfl) ?_
  refine Calls.evalArgs_plain (Calls.spliced_cons ?_)
  refine thn ((pe_str (X := cxI P w K mg base N d.qual d.scope (He.fAd K d.at_) cda cc A outer s H) (pos := p3) (j := j)).run _ _ _ H (fun v H' => v = .str z ∧ H' = H) J2 ⟨rfl, rfl⟩) fun u s3 hu => ?_
  obtain ⟨v, H3, I3, ru, rfl, rfl⟩ := hu
  refine Calls.spliced_nil ⟨ClX.pin_at I3, ?_⟩
  exact call_mw T.oex I3 ha (show 1 ≤ sizeLine by decide) fun s4 I4 => wpAt_of_wpAny (hrun s4 I4)
end
/-! ### isinstance of a caught exception that has a dict -/
section
open PySem.W PySem.Calls
variable {prog : Program} {w : World} {A : Around} {E : Value → Shared → Prop} {s : Shared} {K : Frag} {x D : Addr} {ox : Obj} {od : Option Obj}
theorem clsOf_exc {Q : Option Value → Shared → Prop} (c : L2.ExcC K D) (X : K.In s.heap) (I : InstAt s.heap x ox D od) (h : Q (some (.ref D)) { s with toks := s.toks + 1 }) : wpAny (model prog w) A (getAttr? (.ref x) "__class__") Q E s := by
  have fnd : findObj K D od "__class__" = some (.bind (.builtin "getset_descriptor.__get__") (.builtin "object.__class__")) := by
    obtain ⟨cd, e, _⟩ := any_some c.hd
    unfold findObj
    rw [e, Option.bind_some, c.ha, Option.bind_some]
    simp [c.hn, c.ht]
  obtain ⟨hp, g, d, t, os⟩ := s
  have t0 := I.type (M := model prog w)
  have t1 := looks_findIn (M := model prog w) X c.hg
  have t2 := looks_findIn (M := model prog w) X c.hk
  have t3 := looks_find (M := model prog w) X I fnd
  have tb : Looks (model prog w) hp (isInstance (.ref x) (.type "BaseException")) true := t0.andThen (looks_subIn X c.hs)
  have n0 : (false && onTheHeap (Value.builtin "BaseException.__getattribute__")) = false := rfl
  have n1 : (onTheHeap (Value.ref D) && (Value.builtin "BaseException.__getattribute__" == Value.builtin "object.__getattribute__")) = false := by
    rw [show (Value.builtin "BaseException.__getattribute__" == Value.builtin "object.__getattribute__") = false from by decide +kernel, Bool.and_false]
  unfold getAttr? getAttrBy? getAttrBy
  refine wpAny_bind (wpAny_mkText (wpAny_bind (wpAny_attempt (wpAny_holding (wpAny_bind (t0.at (wpAny_bind (t1.at ?_))))))))
  show wpAny _ _ (if (onTheHeap (Value.ref D) && (Value.builtin "BaseException.__getattribute__" == Value.builtin "object.__getattribute__")) = true then _ else _) _ _ _
  rw [n1, if_neg Bool.false_ne_true]
  unfold getAttrByItsOwn hookBefore
  refine wpAny_bind ?_
  rw [if_pos (show onTheHeap (Value.ref D) = true by rfl)]
  refine t2.at (wpAny_bind (wpAny_attempt (wpAny_holding ?_)))
  unfold callGetattribute
  rw [n0, if_neg Bool.false_ne_true]
  unfold boundAndCalled
  rw [PySem.F.excAttr_ValueError.ga.bind (.ref x)]
  refine wpAny_bind (wpAny_pure ?_)
  show wpAny _ _ (call (.builtin "BaseException.__getattribute__") [.ref x, .str "__class__" t]) _ _ ⟨hp, g, d, t + 1, os⟩
  refine wpAny_call (codeAny_call_builtin PySem.F.excAttr_ValueError.ga.plain PySem.F.entry_bexc_ga (@check_slot (model prog w) _ _ ⟨hp, g, d, t + 1, os⟩ "BaseException.__getattribute__" "BaseException" "__getattribute__" (.ref x) [.str "__class__" t] [] _ (by decide +kernel) (by decide +kernel) tb (PySem.F.args_bexc_ga (.ref x) (.str "__class__" t)) ?_))
  unfold Builtin.«object.__getattribute__»
  refine wpAny_bind (wpAny_of_eq (a := ((Value.ref x : Value), [Value.str "__class__" t])) (by first | rfl | (simp only [slotArgs]; rfl)) (wpAny_bind (wpAny_pure (wpAny_bind (t0.at (wpAny_bind (t3.at ?_)))))))
  show wpAny _ _ (holding [Value.builtin "object.__class__"] (call (.builtin "getset_descriptor.__get__") [.builtin "object.__class__", .ref x, .ref D]) >>= ret) _ _ ⟨hp, g, d, t + 1, os⟩
  refine wpAny_bind (wpAny_holding (wpAny_call (class_get (s := ⟨hp, g, d, t + 1, os⟩) (ox := ox) (od := od) X I c.hm (wpAny_pure ?_))))
  show wpAny _ _ (handedOut (.ref D)) _ _ ⟨hp, g, d, t + 1, os⟩
  rw [handedOut_of (v := .ref D) rfl]
  first
    | exact wpAny_pure (wpAny_pure h)
    | exact wpAny_pure h
    | exact wpAny_pure (wpAny_bind (wpAny_pure (wpAny_pure h)))
theorem kitx_exc (c : L2.ExcC K D) : KitX K (.ref x) (.ref D) (fun h => InstAt h x ox D od) where
  ty := fun _ _ _ I => I.type
  it := fun _ _ X _ => by
    obtain ⟨cd, e, _⟩ := any_some c.hd
    unfold clsIn at e
    split at e
    · rename_i c' d' cd' sl' ho
      intro A' Q' E' s' k q
      unfold isType loadHead
      exact wpAny_bind (wpAny_loadPart (k _ _ (X _ _ ho)) (wpAny_pure q))
    · cases e
  ne := fun h tp dd its n sl X htp => by
    obtain ⟨cd, e, _⟩ := any_some c.hd
    refine Bool.eq_false_iff.mpr fun q => ?_
    have eq : D = tp := Value.ref.inj (beq_iff_eq.mp q)
    subst eq
    unfold clsIn at e
    split at e
    · rename_i c' d' cd' sl' ho
      exact nomatch ((X _ _ ho).symm.trans htp)
    · cases e
  ca := fun X I k => clsOf_exc c X I k
end
/-- e's class and dict, as the suite knows them -/
def rIsX (K : PySem.W.Frag) (a : Addr) (cls : Value) (d : Option Addr) : List V → Hp → VK → Prop := fun xs H Q => ∃ (D dd : Addr) (fs : List (Str × V)) (c : V) (u : Value) (b : Bool), cls = .ref D ∧ d = some dd ∧ H dd = some (.xd fs) ∧ ExcC K D ∧ xs = [.ref a, c] ∧ ClsV c u ∧ PySem.W.kitOne K (.ref D) u = some b ∧ Q (.bl b) H
def rIsXT (K : PySem.W.Frag) (a : Addr) (cls : Value) (d : Option Addr) : List V → Hp → VK → Prop := fun xs H Q => ∃ (D dd : Addr) (fs : List (Str × V)) (tp : Addr) (cs : List V) (us : List Value) (b : Bool), cls = .ref D ∧ d = some dd ∧ H dd = some (.xd fs) ∧ ExcC K D ∧ xs = [.ref a, .ref tp] ∧ H tp = some (.tup cs) ∧ Paired ClsV cs us ∧
  PySem.W.kitAny K (.ref D) us = some b ∧ Q (.bl b) H
section
variable {X : Cx} {a : Addr} {oe : Obj} {cls : Value} {d : Option Addr} {pn : List (Addr × Obj)}
theorem inst_of {D dd : Addr} {fs : List (Str × V)} {pins : List (Addr × Obj)} {σ : L2.St} {H : Hp} {s : Shared} (hz : Zc (.ref D) (some dd) oe) (hf : ∃ vs, oe.data = .fields vs) (I : Inv (X.suite a ((a, oe) :: pn)) pins σ H s) (hd : H dd = some (.xd fs)) :
    ∃ od, PySem.W.InstAt s.heap a oe D (some od) := by
  obtain ⟨hget, _⟩ := I.pin (a, oe) (List.mem_append.mpr (.inl List.mem_cons_self))
  obtain ⟨mA, ⟨o, _, _, ho, _⟩, _⟩ : ∃ mA, s.heap.Ns1 dd mA ∧ ∀ f, RelO (fs.lookup f) (mA f) := I.hok dd _ hd
  obtain ⟨vs, hv⟩ := hf
  obtain ⟨oc, od, oda, osl⟩ := oe
  obtain ⟨h1, h2⟩ := hz
  dsimp only at h1 h2 hv
  subst h1 h2 hv
  exact ⟨o, hget, rfl, rfl, ho⟩
theorem call_isX (hz : Zc cls d oe) (hf : ∃ vs, oe.data = .fields vs) : CallR (X.suite a ((a, oe) :: pn)) (.builtin "isinstance") (rIsX X.K a cls d) := by
  intro pins s σ H xs us Q I r h
  obtain ⟨D, dd, fs, c, u, b, rfl, rfl, hd, C, rfl, k, e, q⟩ := h
  obtain ⟨u1, u2, rfl, r1, r2⟩ := vals2 r
  cases (show u1 = Value.ref a from r1)
  have e2 := k.eq r2
  subst e2
  obtain ⟨od, J⟩ := inst_of hz hf I hd
  exact PySem.W.kia_one (kitx_exc C) I.kIn J e (fun z => nomatch z) fun tk => ⟨.bl b, H, I.tok tk, rfl, q⟩
theorem call_isXT (hz : Zc cls d oe) (hf : ∃ vs, oe.data = .fields vs) : CallR (X.suite a ((a, oe) :: pn)) (.builtin "isinstance") (rIsXT X.K a cls d) := by
  intro pins s σ H xs us Q I r h
  obtain ⟨D, dd, fs, tp, cs, ws, b, rfl, rfl, hd, C, rfl, hT, k, e, q⟩ := h
  obtain ⟨u1, u2, rfl, r1, r2⟩ := vals2 r
  cases (show u1 = Value.ref a from r1)
  cases (show u2 = Value.ref tp from r2)
  obtain ⟨od, J⟩ := inst_of hz hf I hd
  obtain ⟨_, its, rv, o, h1, h2, n, h3⟩ := (show ObjOk X.prog X.w H s.heap tp (.tup cs) from I.hok tp _ hT)
  have e3 := ClsV.all k rv
  subst e3
  obtain ⟨oc, od', dt, sl⟩ := o
  simp only at h2 h3
  subst h2 h3
  exact PySem.W.kia_tup (kitx_exc C) I.kIn J h1 e (fun z => nomatch z) fun tk => ⟨.bl b, H, I.tok tk, rfl, q⟩
end
/-! ### the facts as Bools, the hook -/
open He in
def oexB (K : PySem.W.Frag) (C : Addr) : Bool := (match K.lookup C with
  | some ⟨.type "type", _, .cls cd, sl⟩ => (match cd.mro, sl.toList with
    | .ref C' :: bm, [_, _, _, _, some (.builtin n), _] => C' == C && (n == "ValueError.__new__" && (!cd.hasDel && (cd.hasDict && PySem.HandSPX.refsVE bm)))
    | _, _ => false)
  | _ => false) && (eqO (PySem.W.findIn K (.ref C) "__setattr__") (some (some (.builtin "object.__setattr__"))) && (decide (PySem.W.subIn K (.ref C) (.type "BaseException") = some true) && (decide (PySem.W.typeIn K (.ref C) = some (.type "type")) && PySem.W.keepIn K (.ref C))))
theorem oexB_ok {K : PySem.W.Frag} {C : Addr} (h : oexB K C = true) : OexC K C := by
  obtain ⟨h0, h⟩ := He.ba h
  obtain ⟨h1, h⟩ := He.ba h
  obtain ⟨h2, h⟩ := He.ba h
  obtain ⟨h3, h4⟩ := He.ba h
  refine ⟨?_, He.eqO_ok h1, of_decide_eq_true h2, of_decide_eq_true h3, h4⟩
  split at h0
  · rename_i dd cd sl ho
    split at h0
    · rename_i C' bm k0 k1 k2 k3 n k5 hm hs
      obtain ⟨e1, h0⟩ := He.ba h0
      obtain ⟨e2, h0⟩ := He.ba h0
      obtain ⟨e3, h0⟩ := He.ba h0
      obtain ⟨e4, e5⟩ := He.ba h0
      obtain rfl := beq_iff_eq.mp e1
      obtain rfl := beq_iff_eq.mp e2
      obtain ⟨nm, bs, mro, ns, qn, hd, sn, sub, ab, col, dl⟩ := cd
      dsimp only at hm e3 e4
      subst hm e4
      have e3' : dl = false := by simpa using e3
      subst e3'
      have hsl : sl = #[k0, k1, k2, k3, some (.builtin "ValueError.__new__"), k5] := by
        obtain ⟨l⟩ := sl
        simp only at hs
        rw [hs]
      subst hsl
      exact ⟨nm, qn, ns, bs, bm, sn, sub, ab, col, dd, k0, k1, k2, k3, k5, ho, e5⟩
    · cases h0
  · cases h0
open He in
def xclsB (K : PySem.W.Frag) (C : Addr) : Bool := oexB K C && (decide (PySem.W.mroIn K C (.ref C) = some true) && (eqO (PySem.W.ks_superIn K C C "__init__") (some (some (.builtin "ValueError.__init__"))) &&
  (decide (PySem.W.subIn K (.ref C) (.type "ValueError") = some true) && eqO (PySem.W.nsIn K cStatics "thirdparty.any") (some none))))
theorem xclsB_ok {K : PySem.W.Frag} {C : Addr} (h : xclsB K C = true) : XCls K C := by
  obtain ⟨h0, h⟩ := He.ba h
  obtain ⟨h1, h⟩ := He.ba h
  obtain ⟨h2, h⟩ := He.ba h
  obtain ⟨h3, h4⟩ := He.ba h
  exact ⟨oexB_ok h0, of_decide_eq_true h1, He.eqO_ok h2, of_decide_eq_true h3, He.eqO_ok h4⟩
open He in
/-- what isinstance and e.f ask of it -/
def excB (K : PySem.W.Frag) (C : Addr) : Bool := xfB K C && (eqO (PySem.W.findIn K (.ref C) "__class__") (some (some (.builtin "object.__class__"))) &&
  (eqO (PySem.W.specialIn K (.builtin "object.__class__") "__get__") (some (some (.builtin "getset_descriptor.__get__"))) && (decide (PySem.W.takesIn K (.builtin "object.__class__") = some true) && decide (PySem.W.mroIn K C (.type "object") = some true))))
theorem excB_ok {K : PySem.W.Frag} {C : Addr} (h : excB K C = true) : ExcC K C ∧ XfC K C := by
  obtain ⟨h0, h⟩ := He.ba h
  obtain ⟨h1, h⟩ := He.ba h
  obtain ⟨h2, h⟩ := He.ba h
  obtain ⟨h3, h4⟩ := He.ba h
  obtain ⟨g1, g⟩ := He.ba h0
  obtain ⟨g2, g⟩ := He.ba g
  obtain ⟨g3, g4⟩ := He.ba g
  exact ⟨⟨of_decide_eq_true g1, of_decide_eq_true g2, of_decide_eq_true g3, g4, He.eqO_ok h1, He.eqO_ok h2, of_decide_eq_true h3, of_decide_eq_true h4⟩, xfB_ok h0⟩
abbrev FnZ : Type := Option (Str × Str × Arguments × FuncBody × Scope × Addr × List Str × Addr)
def fnZ (K : PySem.W.Frag) (p : Str × Option Str) : FnZ := match K.lookup (He.fAd K p) with
  | some ⟨_, _, .func fd, _⟩ => some (fd.name, fd.qualname, fd.params, fd.body, fd.scope, fd.globals, fd.closure.map (·.1), fd.builtins)
  | _ => none
def valZ (d : He.DefD) : FnZ := some (d.name, d.qual, d.params, .stmts d.body, d.scope, mainGlobals, ["__class__"], builtinsNs)
def fileB (K : PySem.W.Frag) (cda : Addr) : Bool := match K.lookup cda with
  | some ⟨_, _, .fields vs, _⟩ => (match (vs[2]? : Option Value) with
    | some (.str z _) => z == cutFile
    | _ => false)
  | _ => false
def cellB (K : PySem.W.Frag) (cc C : Addr) : Bool := match K.lookup cc with
  | some ⟨_, _, .cell (some (.ref D)), _⟩ => D == C
  | _ => false
def xfunB (K : PySem.W.Frag) (d : He.DefD) (C : Addr) : Bool := match K.lookup (He.fAd K d.at_) with
  | some ⟨_, _, .func fd, _⟩ => (match fd.closure, fd.code, fd.defaults with
    | [(_, cc)], .ref cda, .none => PySem.W.codeIn K (.ref cda) d.qual && (fileB K cda && cellB K cc C)
    | _, _, _ => false)
  | _ => false
theorem xfun_ok {K : PySem.W.Frag} {d : He.DefD} {C : Addr} (e : fnZ K d.at_ = valZ d) (c : xfunB K d C = true) : ∃ fd, XFun K d C fd := by
  unfold fnZ at e
  unfold xfunB at c
  cases q : K.lookup (He.fAd K d.at_) with
  | none =>
    rw [q] at c
    cases c
  | some o =>
    obtain ⟨oc, od, dt, osl⟩ := o
    rw [q] at c e
    cases dt with
    | func fd =>
      obtain ⟨n1, n2, n3, n4, n5, n6, n7, n8, n9, n10, n11, n12, n13, n14, n15⟩ := fd
      have e2 : (some (n1, n2, n3, n4, n5, n6, n7.map (·.1), n15) : FnZ) = some (d.name, d.qual, d.params, FuncBody.stmts d.body, d.scope, mainGlobals, [Str.ofString "__class__"], builtinsNs) := e
      simp only [Option.some.injEq, Prod.mk.injEq] at e2
      obtain ⟨h1, h2, h3, h4, h5, h6, h7, h8⟩ := e2
      subst h1 h2 h3 h4 h5 h6 h8
      dsimp only at c
      split at c
      · rename_i nn cc cda
        obtain ⟨c1, c⟩ := He.ba c
        obtain ⟨c2, c3⟩ := He.ba c
        have hn : nn = "__class__" := by simpa using h7
        subst hn
        unfold fileB at c2
        unfold cellB at c3
        split at c2
        · rename_i ccl cdd vs ccs hcode
          split at c2
          · rename_i z tf hv
            have hz : z = cutFile := beq_iff_eq.mp c2
            subst hz
            split at c3
            · rename_i cl cld D csl hcell
              have hD : D = C := beq_iff_eq.mp c3
              subst hD
              exact ⟨_, oc, od, n9, n10, n11, n12, cda, cc, n14, osl, ccl, cdd, vs, ccs, tf, cl, cld, csl, rfl, q, c1, hcode, hv, hcell⟩
            · cases c3
          · cases c2
        · cases c2
      · cases c
    | _ => cases c
abbrev AlY : Type := AlX × List FnZ
def obsYG (n : Nat) (fa : List He.Fa) (fn xn : List He.DefD) (ex : PySem.W.Frag → Bool) (g : Addr → Option Obj) : AlY :=
  (fun K => (((He.obsD fa fn K, ex K) : AlX), xn.map fun d => fnZ K d.at_)) (He.frG g (He.asD g n ++ [cStatics]))
def hookY (n : Nat) (fa : List He.Fa) (fn xn : List He.DefD) (ex : PySem.W.Frag → Bool) : PySem.W.Hook where
  α := AlY
  obs := fun s => obsYG n fa fn xn ex s.heap.get?
  val := fun _ => ((He.valD fn, true), xn.map valZ)
  says := fun _ h => ∃ K : PySem.W.Frag, K.In h ∧ Says fa fn ex K ∧ xn.map (fun d => fnZ K d.at_) = xn.map valZ
  of := fun _ _ e => ⟨_, He.frG_in, ⟨congrArg (fun z : AlY => z.1.1) e, congrArg (fun z : AlY => z.1.2) e⟩, congrArg (fun z : AlY => z.2) e⟩
  keeps := fun _ _ _ ⟨K, hK, c⟩ k => ⟨K, PySem.W.Frag.In.keeps hK k, c⟩
theorem obsYG_eq {n : Nat} {fa : List He.Fa} {fn xn : List He.DefD} {ex : PySem.W.Frag → Bool} {g : Addr → Option Obj} {s : Shared} (h : ∀ a, g a = s.heap.get? a) : obsYG n fa fn xn ex g = (hookY n fa fn xn ex).obs s := by
  have e : g = s.heap.get? := funext h
  rw [e]
  rfl
/-- the text of a program with own exceptions -/
structure TxX (P : Program) (fa : List He.Fa) (fn xn : List He.DefD) (ex : PySem.W.Frag → Bool) (K : PySem.W.Frag) (mg : Str → Option Value) : Prop extends Tx fa fn ex K mg where
  pf : PFile P
  xf : xn.map (fun d => fnZ K d.at_) = xn.map valZ
theorem TxX.xfn {P : Program} {fa : List He.Fa} {fn xn : List He.DefD} {ex : PySem.W.Frag → Bool} {K : PySem.W.Frag} {mg : Str → Option Value} (T : TxX P fa fn xn ex K mg) (i : Nat) {d : He.DefD} {C : Addr} (c : xfunB K d C = true) (h : xn[i]? = some d := by rfl) : ∃ fd, XFun K d C fd := by
  have e2 : (xn.map fun d => fnZ K d.at_)[i]? = (xn.map valZ)[i]? := by rw [T.xf]
  rw [List.getElem?_map, List.getElem?_map, h] at e2
  exact xfun_ok (Option.some.inj e2) c
/-! ### an own exception made -/
/-- the fields behind __init__ -/
def xFs (fl : List Str) (vs : List V) (t : Addr) : List (Str × V) := ("told_parts", .ref t) :: (fl.zip vs).reverse
def spX (C : Addr) (nm : Str) (fl : List Str) : Sp := fun vs H Q _ => ∃ (a : Addr) (args : List V), vs = .ref a :: args ∧ args.length = fl.length ∧ H a = some (exo a C none) ∧
  ∀ (d t : Addr) (H' : Hp), H d = none → H t = none → (∀ b o, b ≠ a → H b = some o → H' b = some o) → H' a = some (exo a C (some d)) → H' d = some (exd d (xFs fl args t)) → H' t = some (.tup (.str nm :: args)) → Q .non H'
structure XMk (P : Program) (w : World) (K : PySem.W.Frag) (mg : Str → Option Value) (base : Heap) (x : Str) (C : Addr) (nm : Str) (fl : List Str) : Prop where
  oex : OexC K C
  glo : mg x = some (.ref C)
  ini : ∃ (f : Addr) (fd : FuncData) (ps : List Str), PySem.W.findIn K (.ref C) "__init__" = some (some (.ref f)) ∧ PySem.W.typeIn K (.ref f) = some (.type "function") ∧ FnOk P w K mg base CX0 1 f fd ps (spX C nm fl) ∧ Binds K fd ps []
def tMkX (C : Addr) (nm : Str) (fl : List Str) (ta : TA) : L2.St → Hp → XK → Prop := fun σ H Q => ta σ H fun vs H1 => vs.length = fl.length ∧
  ∀ (d t : Addr) (H' : Hp), H1 d = none → H1 t = none → Ex H1 H' → H' d = some (.xd (xFs fl vs t)) → H' t = some (.tup (.str nm :: vs)) → Q (.ref C) (some d) H'
section
variable {X : Cx} {x nm : Str} {C : Addr} {fl : List Str} {e : Expr} {es : List Expr} {ta : TA} {p pos : Pos}
theorem pmk_x (M : XMk X.prog X.w X.K X.mg X.base x C nm fl) (hfl : fl.length ≤ 10) (hr : Room 2 X.A) (hg : Gl X x) (ha : PA X (e :: es) ta)
    (hdb : (x == ("__debug__" : Str)) = false := by decide) (he : starEach (e :: es) X.env = (false, eval e X.env) :: starEach es X.env := by rfl) (hpl : (backTo pos (starEach es X.env)).any (·.1) = false := by rfl) :
    PMk X (.Call (.Name x p) (e :: es) [] pos) (tMkX C nm fl ta) := by
  obtain ⟨f, fd, ps, h1, h2, h3, h4⟩ := M.ini
  have ha' : PA X (e :: es) (fun σ H Q => ∃ Q0 : List V → Hp → Prop, ta σ H Q0 ∧ ∀ vs H', Q0 vs H' → Q vs H') :=
    ⟨fun pos pins s σ H Q I ⟨Q0, h, k⟩ => thn (ha.run pos pins s σ H Q0 I h) fun us s1 ⟨vs, H1, I1, r, q⟩ => ⟨vs, H1, I1, r, k vs H1 q⟩⟩
  have G := pmk_oex (p := p) (pos := pos) M.oex h1 h2 h3 hr h4 (.nil) pass0 hg M.glo ha' hdb he hpl
  intro pins s σ H Q I h
  refine G pins s σ H Q I ⟨_, h, fun vs H1 q => ?_⟩
  obtain ⟨hl, q⟩ := q
  refine ⟨by omega, fun a na => ?_⟩
  rw [List.append_nil]
  refine ⟨a, vs, rfl, hl, upd_same, fun d t H2 nd nt k ea ed et => ⟨rfl, d, _, ea, ed, (upd_none nd).2, ?_⟩⟩
  have dne := (upd_none nd).1
  have td : t ≠ d := fun z => by
    rw [z, ed] at et
    exact exd_tup (Option.some.inj et)
  have tn := (upd_none nt).1
  refine q d t _ (upd_none nd).2 (upd_none nt).2 (fun b o hb => ?_) upd_same ?_
  · have nb : b ≠ a := ne_of_none hb na
    rw [upd_ne (ne_of_none hb (upd_none nd).2), del_ne nb]
    exact k b o nb (by rw [upd_ne nb]; exact hb)
  · rw [upd_ne td, del_ne tn]
    exact et
end
/-! ### calls of defs that may let an exception out -/
section
variable {X : Cx} {W : WX} {g : Bool} {k n : Nat} {d : He.DefD} {ps ks : List Str} {sp : Sp} {x : Str} {p pos : Pos} {e : Expr} {es : List Expr} {kws : List Keyword} {t tk : TA} {gV : List V → List V → List V}
theorem run_fx {f : Addr} {fd : FuncData} {pins : List (Addr × Obj)} {σ : L2.St} {H : Hp} {s : Shared} {Q : VK} {args : Args} {us : List Value} {vs : List V}
    (F : Fq g X.prog X.w X.K X.mg X.base (L2.CX X.prog X.w) k f fd ps sp) (hg : Gd g X.A) (hr : Room k X.A) (hb : BindsTo s fd args (ps.zip us)) (hx : Takes X W) (I : Inv X pins σ H s) (r : Vals vs us) (h : sp vs H Q (fun cls d H' => W cls d σ H')) :
    codeAny (model X.prog X.w) X.A (.call (.ref f) args) (fun r s' => match r with
      | .ok (.ret v) => EP X pins σ Q v s' | .ok _ => False | .error e => X.xe e s') s := by
  refine codeAny_mono (F.go X.A X.stack s H args us vs Q _ hg hr I.env0 hb r h) fun r s' hq => ?_
  cases r with
  | error e => exact hx e s' (XE.of_call I (fun _ _ _ z => z) hq)
  | ok fl =>
    cases fl with
    | ret u => exact I.after hq
    | _ => exact hq.elim
def tOX (n m : Nat) (sp : Sp) (gV : List V → List V → List V) (W : WX) (t tk : TA) : TE := fun σ H Q => t σ H fun vs H1 => tk σ H1 fun zs H2 =>
  vs.length = n ∧ zs.length = m ∧ sp (gV vs zs) H2 Q (fun cls d H' => W cls d σ H')
theorem pe_oX (F : Fo g X.prog X.w X.K X.mg X.base (L2.CX X.prog X.w) k d ps sp) (hm : X.mg x = some (.ref (He.fAd X.K d.at_)))
    (hb : ∀ fd, FunD X.K d.name d.qual d.params d.body d.scope (d.dvs X.K) (d.kws X.K) (He.fAd X.K d.at_) fd → Bw X.K fd ps n [] gV)
    (hg : Gd g X.A) (hr : Room k X.A) (gl : Gl X x) (hx : Takes X W) (ha : PA X (e :: es) t) (hdb : (x == ("__debug__" : Str)) = false := by decide)
    (he : starEach (e :: es) X.env = (false, eval e X.env) :: starEach es X.env := by rfl) (hpl : (backTo pos (starEach es X.env)).any (·.1) = false := by rfl) :
    PE X (.Call (.Name x p) (e :: es) [] pos) (tOX n 0 sp gV W t tNil) := by
  obtain ⟨fd, F1, FD⟩ := F
  refine ⟨fun pins s σ H Q I h => wpAny_Call_Name_kw (ld_glob I gl hm ?_ hdb)⟩
  refine PySem.W.callWith_K (h₀ := X.base) I.ok.mod.kin FD.kp (thn (ha.run pos pins s σ H _ I h) fun us s1 q => ?_) he hpl
  obtain ⟨vs, H1, I1, r, l1, l2, q⟩ := q
  obtain ⟨zs, hB, hV⟩ := hb fd FD s1 us [] I1.kIn (r.length.symm.trans l1) rfl
  exact ⟨I1.kIn, wpAny_call (run_fx F1 hg hr hB hx I1 (hV vs [] r .nil) q)⟩
theorem pe_ok0X (F : Fo g X.prog X.w X.K X.mg X.base (L2.CX X.prog X.w) k d ps sp) (hm : X.mg x = some (.ref (He.fAd X.K d.at_)))
    (hb : ∀ fd, FunD X.K d.name d.qual d.params d.body d.scope (d.dvs X.K) (d.kws X.K) (He.fAd X.K d.at_) fd → Bw X.K fd ps 0 ks gV)
    (hg : Gd g X.A) (hr : Room k X.A) (gl : Gl X x) (hx : Takes X W) (hkw : PK X kws tk) (hall : (backToKw pos (keywordEach kws X.env)).all (·.1.isSome) = true := by rfl)
    (hks : (backToKw pos (keywordEach kws X.env)).filterMap (·.1) = ks := by rfl) (hdb : (x == ("__debug__" : Str)) = false := by decide)
    (hpl : ((backTo pos (starEach [] X.env)).any (·.1) || (backToKw pos (keywordEach kws X.env)).any (·.1.isNone)) = false := by rfl) :
    PE X (.Call (.Name x p) [] kws pos) (tOX 0 ks.length sp gV W tNil tk) := by
  obtain ⟨fd, F1, FD⟩ := F
  refine ⟨fun pins s σ H Q I h => wpAny_Call_Name_kw (ld_glob I gl hm ?_ hdb)⟩
  refine PySem.W.callWith_KW0 (h₀ := X.base) I.ok.mod.kin FD.kp hall (thn (hkw.run pos pins s σ H _ I h) fun ws s2 q2 => ?_) hpl
  obtain ⟨ys, H2, I2, rz, l1, l2, q3⟩ := q2
  rw [hks]
  obtain ⟨zs, hB, hV⟩ := hb fd FD s2 [] ws I2.kIn rfl (rz.length.symm.trans l2)
  exact ⟨I2.kIn, wpAny_call (run_fx F1 hg hr hB hx I2 (hV [] ys .nil rz) q3)⟩
end
/-- nothing is let out -/
theorem takes_no {X : Cx} : Takes X (fun _ _ _ _ => False) := fun u s' ⟨_, _, _, _, _, _, _, _, _, _, _, _, _, _, _, _, w⟩ => w.elim
/-! ### the rest of __init__: self.f, .., self.told_parts = (f, .., ('N', f, ..)) -/
theorem args1 {f : Str} {args : List V} (h : args.length = [f].length) : ∃ v, args = [v] := by
  match args, h with
  | [v], _ => exact ⟨v, rfl⟩
theorem args2 {f g : Str} {args : List V} (h : args.length = [f, g].length) : ∃ v u, args = [v, u] := by
  match args, h with
  | [v, u], _ => exact ⟨v, u, rfl⟩
section
variable {K : PySem.W.Frag} {C a : Addr} {nm f g : Str} {v u : V} {H : Hp} {Q : VK}
theorem init1 (T : OexC K C) (h1 : NoAttr K C f) (h2 : NoAttr K C "told_parts") (ha : H a = some (exo a C none))
    (hq : ∀ (d t : Addr) (H' : Hp), H d = none → H t = none → (∀ b o, b ≠ a → H b = some o → H' b = some o) → H' a = some (exo a C (some d)) → H' d = some (exd d (xFs [f] [v] t)) → H' t = some (.tup (.str nm :: [v])) → Q .non H') :
    tAsg (tTup (tCons (tVar 1) (tCons (tTup (tCons (tC (.str nm)) (tCons (tVar 1) tNil))) tNil))) (gTup K 2 (gCons (gOst K f (tVar 0)) (gCons (gOst K "told_parts" (tVar 0)) gNil))) { nx := fun _ H' => Q .non H', rt := Q } [some (.ref a), some v] H := by
  refine ⟨v, rfl, v, rfl, (show 2 ≤ sizeLine by decide), fun t nt => ⟨(show 2 ≤ sizeLine by decide), fun p np => ⟨p, _, rfl, .inl (.inl upd_same), rfl, v, [.ref t], rfl, .ref a, rfl, a, C, rfl, T, h1, .inl ⟨?_, fun d nd dne => ⟨.ref t, [], rfl, .ref a, rfl, a, C, rfl, T, h2, .inr ⟨d, [(f, v)], upd_same, ?_, (show 1 ≤ 900 by decide), rfl, ?_⟩⟩⟩⟩⟩⟩
  · rw [upd_ne (ne_of_none (by rw [upd_ne (ne_of_none ha nt)]; exact ha) np), upd_ne (ne_of_none ha nt)]
    exact ha
  · rw [upd_ne dne, upd_same]
  · have ndp := upd_none nd
    have ndt := upd_none ndp.2
    have na : a ≠ t := ne_of_none ha nt
    have npt := upd_none np
    refine hq d t _ ndt.2 nt (fun b o nb hb => ?_) ?_ upd_same ?_
    · rw [upd_ne (ne_of_none hb ndt.2), upd_ne nb, upd_ne (ne_of_none hb ndt.2), upd_ne (ne_of_none hb npt.2), upd_ne (ne_of_none hb nt)]
      exact hb
    · rw [upd_ne dne.symm, upd_same]
    · rw [upd_ne ndt.1.symm, upd_ne na.symm, upd_ne ndt.1.symm, upd_ne npt.1.symm, upd_same]
theorem init2 (T : OexC K C) (h1 : NoAttr K C f) (h1' : NoAttr K C g) (h2 : NoAttr K C "told_parts") (ha : H a = some (exo a C none))
    (hq : ∀ (d t : Addr) (H' : Hp), H d = none → H t = none → (∀ b o, b ≠ a → H b = some o → H' b = some o) → H' a = some (exo a C (some d)) → H' d = some (exd d (xFs [f, g] [v, u] t)) → H' t = some (.tup (.str nm :: [v, u])) → Q .non H') :
    tAsg (tTup (tCons (tVar 1) (tCons (tVar 2) (tCons (tTup (tCons (tC (.str nm)) (tCons (tVar 1) (tCons (tVar 2) tNil)))) tNil)))) (gTup K 3 (gCons (gOst K f (tVar 0)) (gCons (gOst K g (tVar 0)) (gCons (gOst K "told_parts" (tVar 0)) gNil)))) { nx := fun _ H' => Q .non H', rt := Q } [some (.ref a), some v, some u] H := by
  refine ⟨v, rfl, u, rfl, v, rfl, u, rfl, (show 3 ≤ sizeLine by decide), fun t nt => ⟨(show 3 ≤ sizeLine by decide), fun p np => ⟨p, _, rfl, .inl (.inl upd_same), rfl, v, [u, .ref t], rfl, .ref a, rfl, a, C, rfl, T, h1, .inl ⟨?_, fun d nd dne => ⟨u, [.ref t], rfl, .ref a, rfl, a, C, rfl, T, h1', .inr ⟨d, [(f, v)], upd_same, ?_, (show 1 ≤ 900 by decide),
    .ref t, [], rfl, .ref a, rfl, a, C, rfl, T, h2, .inr ⟨d, [(g, u), (f, v)], ?_, upd_same, (show 2 ≤ 900 by decide), rfl, ?_⟩⟩⟩⟩⟩⟩⟩
  · rw [upd_ne (ne_of_none (by rw [upd_ne (ne_of_none ha nt)]; exact ha) np), upd_ne (ne_of_none ha nt)]
    exact ha
  · rw [upd_ne dne, upd_same]
  · rw [upd_ne dne.symm, upd_same]
  · have ndp := upd_none nd
    have ndt := upd_none ndp.2
    have na : a ≠ t := ne_of_none ha nt
    have npt := upd_none np
    refine hq d t _ ndt.2 nt (fun b o nb hb => ?_) ?_ upd_same ?_
    · rw [upd_ne (ne_of_none hb ndt.2), upd_ne (ne_of_none hb ndt.2), upd_ne nb, upd_ne (ne_of_none hb ndt.2), upd_ne (ne_of_none hb npt.2), upd_ne (ne_of_none hb nt)]
      exact hb
    · rw [upd_ne dne.symm, upd_ne dne.symm, upd_same]
    · rw [upd_ne ndt.1.symm, upd_ne ndt.1.symm, upd_ne na.symm, upd_ne ndt.1.symm, upd_ne npt.1.symm, upd_same]
end
end Ab

set_option Elab.async false
set_option linter.all false
set_option maxRecDepth 100000
set_option maxHeartbeats 4000000
/-! AbT: values whose kind is known. -/
namespace Ab
open PySem PySem.Spec PyProof.Rows L2
def isInt : V → Bool
  | .int _ => true
  | _ => false
def isStr : V → Bool
  | .str _ => true
  | _ => false
def isBl : V → Bool
  | .bl _ => true
  | _ => false
/-- a value whose kind is known -/
def Ty (K : PySem.W.Frag) (H : Hp) : V → Prop
  | .non => True
  | .bl _ => True
  | .int _ => True
  | .str z => (cs z).length ≤ 1000000
  | .ref a => ∃ t, TyX K H (.ref a) t ∧ PySem.W.kitOne K t (.type "int") = some false ∧ PySem.W.kitOne K t (.type "str") = some false ∧ PySem.W.kitOne K t (.type "bool") = some false
  | _ => False
section
variable {K : PySem.W.Frag} {H : Hp} {v : V} {Q : VK}
theorem is_int (h : Ty K H v) (q : Q (.bl (isInt v || isBl v)) H) : rIsi K [v, .ty "int"] H Q := by
  cases v with
  | non => exact ⟨_, _, _, _, false, rfl, .ty _, .base .non, kit_ty (show kitB "NoneType" "int" = some false by decide +kernel), q⟩
  | bl b => exact ⟨_, _, _, _, true, rfl, .ty _, .base (.bl b), kit_ty (show kitB "bool" "int" = some true by decide +kernel), q⟩
  | int i => exact ⟨_, _, _, _, true, rfl, .ty _, .base (.int i), kit_ty (show kitB "int" "int" = some true by decide +kernel), q⟩
  | str z => exact ⟨_, _, _, _, false, rfl, .ty _, .base (.str z), kit_ty (show kitB "str" "int" = some false by decide +kernel), q⟩
  | ref a => obtain ⟨t, h1, h2, h3, h4⟩ := h; exact ⟨_, _, _, _, _, rfl, .ty _, h1, h2, q⟩
  | byt _ => exact h.elim
  | flt _ => exact h.elim
  | ty _ => exact h.elim
theorem is_str (h : Ty K H v) (q : Q (.bl (isStr v)) H) : rIsi K [v, .ty "str"] H Q := by
  cases v with
  | non => exact ⟨_, _, _, _, false, rfl, .ty _, .base .non, kit_ty (show kitB "NoneType" "str" = some false by decide +kernel), q⟩
  | bl b => exact ⟨_, _, _, _, false, rfl, .ty _, .base (.bl b), kit_ty (show kitB "bool" "str" = some false by decide +kernel), q⟩
  | int i => exact ⟨_, _, _, _, false, rfl, .ty _, .base (.int i), kit_ty (show kitB "int" "str" = some false by decide +kernel), q⟩
  | str z => exact ⟨_, _, _, _, true, rfl, .ty _, .base (.str z), kit_ty (show kitB "str" "str" = some true by decide +kernel), q⟩
  | ref a => obtain ⟨t, h1, h2, h3, h4⟩ := h; exact ⟨_, _, _, _, _, rfl, .ty _, h1, h3, q⟩
  | byt _ => exact h.elim
  | flt _ => exact h.elim
  | ty _ => exact h.elim
theorem is_bool (h : Ty K H v) (q : Q (.bl (isBl v)) H) : rIsi K [v, .ty "bool"] H Q := by
  cases v with
  | non => exact ⟨_, _, _, _, false, rfl, .ty _, .base .non, kit_ty (show kitB "NoneType" "bool" = some false by decide +kernel), q⟩
  | bl b => exact ⟨_, _, _, _, true, rfl, .ty _, .base (.bl b), kit_ty (show kitB "bool" "bool" = some true by decide +kernel), q⟩
  | int i => exact ⟨_, _, _, _, false, rfl, .ty _, .base (.int i), kit_ty (show kitB "int" "bool" = some false by decide +kernel), q⟩
  | str z => exact ⟨_, _, _, _, false, rfl, .ty _, .base (.str z), kit_ty (show kitB "str" "bool" = some false by decide +kernel), q⟩
  | ref a => obtain ⟨t, h1, h2, h3, h4⟩ := h; exact ⟨_, _, _, _, _, rfl, .ty _, h1, h4, q⟩
  | byt _ => exact h.elim
  | flt _ => exact h.elim
  | ty _ => exact h.elim
end
section
variable {K : PySem.W.Frag} {H : Hp} {a : Addr} {xs : List V} {kvs : List (Key × V)}
theorem Ty.lst (h : H a = some (.lst xs)) : Ty K H (.ref a) := ⟨_, .base (.lst h), kit_ty (show kitB "list" "int" = some false by decide +kernel), kit_ty (show kitB "list" "str" = some false by decide +kernel), kit_ty (show kitB "list" "bool" = some false by decide +kernel)⟩
theorem Ty.tup (h : H a = some (.tup xs)) : Ty K H (.ref a) := ⟨_, .base (.tup h), kit_ty (show kitB "tuple" "int" = some false by decide +kernel), kit_ty (show kitB "tuple" "str" = some false by decide +kernel), kit_ty (show kitB "tuple" "bool" = some false by decide +kernel)⟩
theorem Ty.dK (h : H a = some (.dK kvs)) : Ty K H (.ref a) := ⟨_, .base (.dK h), kit_ty (show kitB "dict" "int" = some false by decide +kernel), kit_ty (show kitB "dict" "str" = some false by decide +kernel), kit_ty (show kitB "dict" "bool" = some false by decide +kernel)⟩
end
/-- an own exception with these fields is let out -/
def Lets (E : XK) (C : Addr) (nm : Str) (fl : List Str) (vs : List V) (H : Hp) : Prop := ∀ (d t : Addr) (H' : Hp), H d = none → H t = none → Ex H H' → H' d = some (.xd (xFs fl vs t)) → H' t = some (.tup (.str nm :: vs)) → E (.ref C) (some d) H'
/-! ### choices out of written lists -/
def strLe (b : Nat) : V → Bool
  | .str z => decide ((cs z).length ≤ b)
  | _ => false
theorem strs_le {b : Nat} {xs : List V} (h : xs.all (strLe b) = true) {v : V} (hv : v ∈ xs) : ∃ z, v = .str z ∧ (cs z).length ≤ b := by
  have := List.all_eq_true.mp h v hv
  cases v with
  | str z => exact ⟨z, rfl, of_decide_eq_true this⟩
  | _ => cases this
def intIn (a b : Int) : V → Bool
  | .int i => decide (a ≤ i ∧ i ≤ b)
  | _ => false
theorem ints_in {a b : Int} {xs : List V} (h : xs.all (intIn a b) = true) {v : V} (hv : v ∈ xs) : ∃ i, v = .int i ∧ a ≤ i ∧ i ≤ b := by
  have := List.all_eq_true.mp h v hv
  cases v with
  | int i => exact ⟨i, rfl, of_decide_eq_true this⟩
  | _ => cases this
section
variable {K : PySem.W.Frag} {r p : Addr} {H : Hp} {xs : List V} {Q : VK} {E : XK}
theorem choose (hR : Rng r H) (hp : H p = none) (hne : xs ≠ []) (hl : xs.length ≤ 100000) (k : ∀ v H', v ∈ xs → Dr r H H' → Q v H') : spChoice K [.ref r, .ref p] (upd H p (.lst xs)) Q E :=
  ⟨r, p, xs, rfl, hR.ex (Ex.new hp), hR.ne hp, SqL.of upd_same, hne, hl, fun v H' hv d => k v H' hv ((Dr.new hR hp).trans d)⟩
theorem chooseS (b : Nat) (hR : Rng r H) (hp : H p = none) (h : xs.all (strLe b) = true) (hne : xs ≠ []) (hl : xs.length ≤ 100000) (k : ∀ (z : Str) H', (cs z).length ≤ b → Dr r H H' → Q (.str z) H') : spChoice K [.ref r, .ref p] (upd H p (.lst xs)) Q E :=
  choose hR hp hne hl fun v H' hv d => by
    obtain ⟨z, rfl, hz⟩ := strs_le h hv
    exact k z H' hz d
theorem chooseI (a b : Int) (hR : Rng r H) (hp : H p = none) (h : xs.all (intIn a b) = true) (hne : xs ≠ []) (hl : xs.length ≤ 100000) (k : ∀ (i : Int) H', a ≤ i → i ≤ b → Dr r H H' → Q (.int i) H') : spChoice K [.ref r, .ref p] (upd H p (.lst xs)) Q E :=
  choose hR hp hne hl fun v H' hv d => by
    obtain ⟨z, rfl, h1, h2⟩ := ints_in h hv
    exact k z H' h1 h2 d
theorem drawN {m : Int} (hR : Rng r H) (m0 : 0 < m) (m1 : m ≤ 100000) (k : ∀ (n : Nat) H', (n : Int) < m → Dr r H H' → Q (.int n) H') : spDraw [.ref r, .int m] H Q E :=
  ⟨r, m, rfl, hR, m0, m1, fun i H' h0 h1 d => by
    obtain ⟨n, rfl⟩ := Int.eq_ofNat_of_zero_le h0
    exact k n H' h1 d⟩
end
/-- a sum of small lengths -/
theorem sum_le {b : Nat} : ∀ {zs : List Str}, (∀ z ∈ zs, (cs z).length ≤ b) → (zs.map (·.length)).sum ≤ zs.length * b
  | [], _ => by simp
  | z :: zs, h => by
    have h1 := h z List.mem_cons_self
    have h2 := sum_le (zs := zs) fun u hu => h u (List.mem_cons_of_mem _ hu)
    rw [List.map_cons, List.sum_cons, List.length_cons, cs_len, Nat.succ_mul]
    omega
theorem joinL_len (s : List Nat) : ∀ ps : List (List Nat), (TL.joinL s ps).length ≤ (ps.map List.length).sum + ps.length * s.length
  | [] => by simp [TL.joinL]
  | [p] => by simp [TL.joinL]
  | p :: q :: r => by
    show (p ++ (s ++ TL.joinL s (q :: r))).length ≤ _
    have := joinL_len s (q :: r)
    rw [List.length_append, List.length_append, List.map_cons, List.sum_cons, List.length_cons, Nat.succ_mul]
    omega
theorem join_len (s : Str) (zs : List Str) {b : Nat} (h : ∀ z ∈ zs, (cs z).length ≤ b) : (cs (Txt.join s zs)).length ≤ zs.length * (b + (cs s).length) := by
  have e : cs (Txt.join s zs) = TL.joinL (cs s) (zs.map cs) := by rw [TL.join_eq]; exact TL.tl_join s zs
  rw [e]
  refine Nat.le_trans (joinL_len _ _) ?_
  have h2 := sum_le h
  have e2 : ((zs.map cs).map List.length) = zs.map (·.length) := by
    rw [List.map_map]
    exact List.map_congr_left fun z _ => (cs_len z).symm
  rw [e2, List.length_map, Nat.mul_add]
  omega
theorem cutS_le (z : Str) (lo hi : Option Int) : (cs (cutS z lo hi)).length ≤ (cs z).length := by
  rw [← cs_len, ← cs_len]
  exact cutS_length z lo hi
theorem cut_two (z : Str) (a b : Nat) (h : a ≤ b) : (cs (cutS z none (some (a : Int)))).length + (cs (cutS z (some (b : Int)) none)).length ≤ (cs z).length := by
  unfold cutS
  rw [HT.sIx_nat, HT.sIx_nat, HT.sIx_none, HT.sIx_none, cs_len]
  simp only [cs, List.length_take, List.length_drop]
  omega
/-- the flag is no harm -/
theorem Fq.up {P : Program} {w : World} {K : PySem.W.Frag} {mg : Str → Option Value} {base : Heap} {CX : CXT} {k : Nat} {f : Addr} {fd : FuncData} {ps : List Str} {sp : Sp} (F : Fq false P w K mg base CX k f fd ps sp) : Fq true P w K mg base CX k f fd ps sp :=
  ⟨F.len, fun A outer s H args us vs Q E _ => F.go A outer s H args us vs Q E gd_false⟩
end Ab

set_option Elab.async false
set_option linter.all false
set_option maxRecDepth 100000
set_option maxHeartbeats 4000000
/-! AbQ: == and != of equal things: flat values, lists, tuples, at any depth. -/
namespace Ab
open PySem PySem.Spec PyProof.Rows L2
def SimV (K : PySem.W.Frag) (H : Hp) : Nat → V → V → Prop
  | 0 => fun _ _ => False
  | n + 1 => fun x y => (x = y ∧ flatV x = true) ∨ (∃ a, x = .ref a ∧ y = .ref a) ∨ ∃ a b xs ys, x = .ref a ∧ y = .ref b ∧ ((SqL K H a xs ∧ SqL K H b ys) ∨ (SqT K H a xs ∧ SqT K H b ys)) ∧ Paired (SimV K H n) xs ys
def SimR (K : PySem.W.Frag) (H : Hp) (n : Nat) (x y : V) : Prop := (x = y ∧ flatV x = true) ∨ ∃ a b xs ys, x = .ref a ∧ y = .ref b ∧ ((SqL K H a xs ∧ SqL K H b ys) ∨ (SqT K H a xs ∧ SqT K H b ys)) ∧ Paired (SimV K H n) xs ys
theorem SimR.v {K : PySem.W.Frag} {H : Hp} {n : Nat} {x y : V} (h : SimR K H n x y) : SimV K H (n + 1) x y := h.elim .inl fun h => .inr (.inr h)
theorem flatB_of {v : V} (h : flatV v = true) : flatB v = true := by cases v <;> first | rfl | cases h
theorem scal_of {v : V} (h : flatV v = true) : scal v v = true := by cases v <;> first | rfl | cases h
section
variable {X : Cx} {pins : List (Addr × Obj)} {σ : L2.St} {H : Hp} {s : Shared}
theorem items_at {A : Around} {F : V → V → Prop} (ih : ∀ x y v u, F x y → RelV x v → RelV y u → SeqAt.EqAt A s v u true) {xs ys : List V} (hp : Paired F xs ys) :
    ∀ {us ws : List Value}, Vals xs us → Vals ys ws → ∀ j (h1 : j < us.length) (h2 : j < ws.length), SeqAt.EqAt A s us[j] ws[j] true := by
  induction hp with
  | nil =>
    intro us ws r1 r2 j h1 h2
    cases r1
    exact absurd h1 (Nat.not_lt_zero j)
  | cons h _ k =>
    intro us ws r1 r2 j h1 h2
    cases r1 with
    | cons a1 b1 =>
      cases r2 with
      | cons a2 b2 =>
        cases j with
        | zero => exact ih _ _ _ _ h a1 a2
        | succ j => exact k b1 b2 j (Nat.lt_of_succ_lt_succ h1) (Nat.lt_of_succ_lt_succ h2)
theorem all_true (n : Nat) : ((List.range n).all fun _ => true) = true := List.all_eq_true.mpr fun _ _ => rfl
theorem pair_at (I : Inv X pins σ H s) {A : Around} {F : V → V → Prop} (hu : A.units < cLine) (ih : ∀ x y v u, F x y → RelV x v → RelV y u → SeqAt.EqAt A.in1 s v u true) {a b : Addr} {xs ys : List V}
    (h : (SqL X.K H a xs ∧ SqL X.K H b ys) ∨ (SqT X.K H a xs ∧ SqT X.K H b ys)) (hp : Paired F xs ys) : SeqAt.RcAt A s (.ref a) (.ref b) true ∧ SeqAt.RcNeAt A s (.ref a) (.ref b) false := by
  rcases h with ⟨ha, hb⟩ | ⟨ha, hb⟩
  · obtain ⟨us, r1, p1, _⟩ := I.list ha
    obtain ⟨ws, r2, p2, _⟩ := I.list hb
    have hsz : us.toArray.size = ws.toArray.size := by
      rw [List.size_toArray, List.size_toArray, ← r1.length, ← r2.length]
      exact Paired.length hp
    have he : ∀ j (h1 : j < us.toArray.size) (h2 : j < ws.toArray.size), SeqAt.EqAt A.in1 s us.toArray[j] ws.toArray[j] ((fun _ => true) j) := fun j h1 h2 => by
      simpa using items_at ih hp r1 r2 j (by simpa using h1) (by simpa using h2)
    have k1 := SeqAt.RcAt.lists (e := fun _ => true) p1.isList p2.isList hsz hu he
    have k2 := SeqAt.RcNeAt.lists (e := fun _ => true) p1.isList p2.isList hsz hu he
    rw [all_true] at k1 k2
    exact ⟨k1, k2⟩
  · obtain ⟨us, r1, p1, _⟩ := I.tuple ha
    obtain ⟨ws, r2, p2, _⟩ := I.tuple hb
    have hsz : us.toArray.size = ws.toArray.size := by
      rw [List.size_toArray, List.size_toArray, ← r1.length, ← r2.length]
      exact Paired.length hp
    have he : ∀ j (h1 : j < us.toArray.size) (h2 : j < ws.toArray.size), SeqAt.EqAt A.in1 s us.toArray[j] ws.toArray[j] ((fun _ => true) j) := fun j h1 h2 => by
      simpa using items_at ih hp r1 r2 j (by simpa using h1) (by simpa using h2)
    have k1 := SeqAt.RcAt.tuples (e := fun _ => true) p1 p2 hu he
    have k2 := SeqAt.RcNeAt.tuples (e := fun _ => true) p1 p2 hu he
    rw [all_true, hsz, beq_self_eq_true] at k1 k2
    exact ⟨k1, k2⟩
theorem sim_at (I : Inv X pins σ H s) : ∀ (n : Nat) (A : Around), A.units + n < cLine → ∀ (x y : V) (v u : Value), SimV X.K H n x y → RelV x v → RelV y u → SeqAt.EqAt A s v u true
  | 0, _, _, _, _, _, _, h, _, _ => (show False from h).elim
  | n + 1, A, hu, x, y, v, u, h, rx, ry => by
    rcases h with ⟨rfl, f⟩ | ⟨a, rfl, rfl⟩ | ⟨a, b, xs, ys, rfl, rfl, h, hp⟩
    · exact eqAt_same rx ry (flatB_of f)
    · cases (show v = Value.ref a from rx)
      cases (show u = Value.ref a from ry)
      exact SeqAt.EqAt.same _
    · cases (show v = Value.ref a from rx)
      cases (show u = Value.ref b from ry)
      by_cases e : a = b
      · subst e
        exact SeqAt.EqAt.same _
      · exact SeqAt.EqAt.of_refs e (pair_at I (A := A) (by omega) (sim_at I n A.in1 (by show A.units + 1 + n < cLine; omega)) h hp).1
end
def rSimE (K : PySem.W.Frag) : R2 := fun x y H Q => ∃ n, n ≤ 60 ∧ SimR K H n x y ∧ Q (.bl true) H
def rSimN (K : PySem.W.Frag) : R2 := fun x y H Q => ∃ n, n ≤ 60 ∧ SimR K H n x y ∧ Q (.bl false) H
section
variable {X : Cx}
theorem op_simE (hu : X.A.units + 64 < cLine) : OpR X (compareOp .Eq) (rSimE X.K) := by
  intro pins s σ H x y v u Q I rx ry h
  obtain ⟨n, hn, h, q⟩ := h
  rcases h with ⟨rfl, f⟩ | ⟨a, b, xs, ys, rfl, rfl, h, hp⟩
  · exact op_eq pins s σ H x x v u Q I rx ry ⟨scal_of f, by rw [decide_eq_true rfl]; exact q⟩
  · cases (show v = Value.ref a from rx)
    cases (show u = Value.ref b from ry)
    exact (pair_at I (A := X.A) (by omega) (sim_at I n X.A.in1 (by show X.A.units + 1 + n < cLine; omega)) h hp).1 _ _ _ _ ⟨.bl true, H, I, rfl, q⟩
theorem op_simN (hu : X.A.units + 64 < cLine) : OpR X (compareOp .NotEq) (rSimN X.K) := by
  intro pins s σ H x y v u Q I rx ry h
  obtain ⟨n, hn, h, q⟩ := h
  rcases h with ⟨rfl, f⟩ | ⟨a, b, xs, ys, rfl, rfl, h, hp⟩
  · exact op_ne pins s σ H x x v u Q I rx ry ⟨scal_of f, by rw [decide_eq_true rfl]; exact q⟩
  · cases (show v = Value.ref a from rx)
    cases (show u = Value.ref b from ry)
    exact (pair_at I (A := X.A) (by omega) (sim_at I n X.A.in1 (by show X.A.units + 1 + n < cLine; omega)) h hp).2 _ _ _ _ ⟨.bl false, H, I, rfl, q⟩
end
/-- flat items -/
theorem sim_flat {K : PySem.W.Frag} {H : Hp} {n : Nat} : ∀ {xs : List V}, (∀ x ∈ xs, flatV x = true) → Paired (SimV K H (n + 1)) xs xs
  | [], _ => .nil
  | x :: xs, h => .cons (.inl ⟨rfl, h x List.mem_cons_self⟩) (sim_flat fun y hy => h y (List.mem_cons_of_mem _ hy))
theorem SimR.flatL {K : PySem.W.Frag} {H : Hp} {a b : Addr} {xs : List V} (ha : SqL K H a xs) (hb : SqL K H b xs) (h : ∀ x ∈ xs, flatV x = true) : SimR K H 1 (.ref a) (.ref b) := .inr ⟨a, b, xs, xs, rfl, rfl, .inl ⟨ha, hb⟩, sim_flat h⟩
theorem SimR.flatT {K : PySem.W.Frag} {H : Hp} {a b : Addr} {xs : List V} (ha : SqT K H a xs) (hb : SqT K H b xs) (h : ∀ x ∈ xs, flatV x = true) : SimR K H 1 (.ref a) (.ref b) := .inr ⟨a, b, xs, xs, rfl, rfl, .inr ⟨ha, hb⟩, sim_flat h⟩
theorem SimV.mono {K : PySem.W.Frag} {H : Hp} : ∀ {n m : Nat} {x y : V}, n ≤ m → SimV K H n x y → SimV K H m x y
  | 0, _, _, _, _, h => (show False from h).elim
  | n + 1, 0, _, _, h, _ => absurd h (by omega)
  | n + 1, m + 1, x, y, hm, h => by
    rcases h with h | h | ⟨a, b, xs, ys, e1, e2, h, hp⟩
    · exact .inl h
    · exact .inr (.inl h)
    · refine .inr (.inr ⟨a, b, xs, ys, e1, e2, h, ?_⟩)
      clear h e1 e2
      induction hp with
      | nil => exact .nil
      | cons q _ k => exact .cons (SimV.mono (by omega) q) k
end Ab

set_option Elab.async false
set_option linter.all false
set_option maxRecDepth 100000
set_option maxHeartbeats 4000000
namespace K21
open PySem PySem.Spec PyProof.Rows L2 Ab
def top (i : Nat) : Stmt := PySem.Challenge.pw_aboveless_k21_parts_of_texts.main.body.getD i (.Pass ⟨0, 0, 0, 0⟩)
abbrev s_token_end : Stmt := top 18
abbrev N_token_end : List Str := ["text", "start", "end"]
theorem sc_token_end : FnScope N_token_end ["text", "start"] (defScope s_token_end) :=
  ⟨rfl, rfl, rfl, by decide +kernel, rfl, by decide +kernel, by decide +kernel⟩
def d_token_end : He.DefD := ⟨("token_end", none), "token_end", "token_end", defArgs s_token_end, defBody s_token_end, defScope s_token_end, [], []⟩
theorem b_token_end {K : PySem.W.Frag} : ∀ fd, FunD K d_token_end.name d_token_end.qual d_token_end.params d_token_end.body d_token_end.scope (d_token_end.dvs K) (d_token_end.kws K) (He.fAd K d_token_end.at_) fd → Bw K fd ["text", "start"] 2 [] gPos :=
  fun fd F => bw_pos F 2 rfl (fun _ _ _ _ _ _ us hl => match us, hl with | [_, _], _ => rfl)
abbrev s_may_follow : Stmt := top 19
abbrev N_may_follow : List Str := ["token", "before"]
theorem sc_may_follow : FnScope N_may_follow ["token", "before"] (defScope s_may_follow) :=
  ⟨rfl, rfl, rfl, by decide +kernel, rfl, by decide +kernel, by decide +kernel⟩
def d_may_follow : He.DefD := ⟨("may_follow", none), "may_follow", "may_follow", defArgs s_may_follow, defBody s_may_follow, defScope s_may_follow, [], []⟩
theorem b_may_follow {K : PySem.W.Frag} : ∀ fd, FunD K d_may_follow.name d_may_follow.qual d_may_follow.params d_may_follow.body d_may_follow.scope (d_may_follow.dvs K) (d_may_follow.kws K) (He.fAd K d_may_follow.at_) fd → Bw K fd ["token", "before"] 2 [] gPos :=
  fun fd F => bw_pos F 2 rfl (fun _ _ _ _ _ _ us hl => match us, hl with | [_, _], _ => rfl)
abbrev s_behind : Stmt := top 20
abbrev N_behind : List Str := ["token", "depth"]
theorem sc_behind : FnScope N_behind ["token", "depth"] (defScope s_behind) :=
  ⟨rfl, rfl, rfl, by decide +kernel, rfl, by decide +kernel, by decide +kernel⟩
def d_behind : He.DefD := ⟨("behind", none), "behind", "behind", defArgs s_behind, defBody s_behind, defScope s_behind, [], []⟩
theorem b_behind {K : PySem.W.Frag} : ∀ fd, FunD K d_behind.name d_behind.qual d_behind.params d_behind.body d_behind.scope (d_behind.dvs K) (d_behind.kws K) (He.fAd K d_behind.at_) fd → Bw K fd ["token", "depth"] 2 [] gPos :=
  fun fd F => bw_pos F 2 rfl (fun _ _ _ _ _ _ us hl => match us, hl with | [_, _], _ => rfl)
abbrev s_parts_or_none : Stmt := top 21
abbrev N_parts_or_none : List Str := ["text", "found", "before", "depth", "start", "here", "end", "token"]
theorem sc_parts_or_none : FnScope N_parts_or_none ["text"] (defScope s_parts_or_none) :=
  ⟨rfl, rfl, rfl, by decide +kernel, rfl, by decide +kernel, by decide +kernel⟩
def d_parts_or_none : He.DefD := ⟨("parts_or_none", none), "parts_or_none", "parts_or_none", defArgs s_parts_or_none, defBody s_parts_or_none, defScope s_parts_or_none, [], []⟩
theorem b_parts_or_none {K : PySem.W.Frag} : ∀ fd, FunD K d_parts_or_none.name d_parts_or_none.qual d_parts_or_none.params d_parts_or_none.body d_parts_or_none.scope (d_parts_or_none.dvs K) (d_parts_or_none.kws K) (He.fAd K d_parts_or_none.at_) fd → Bw K fd ["text"] 1 [] gPos :=
  fun fd F => bw_pos F 1 rfl (fun _ _ _ _ _ _ us hl => match us, hl with | [_], _ => rfl)
abbrev s_parts_of : Stmt := top 22
abbrev N_parts_of : List Str := ["text", "found"]
theorem sc_parts_of : FnScope N_parts_of ["text"] (defScope s_parts_of) :=
  ⟨rfl, rfl, rfl, by decide +kernel, rfl, by decide +kernel, by decide +kernel⟩
def d_parts_of : He.DefD := ⟨("parts_of", none), "parts_of", "parts_of", defArgs s_parts_of, defBody s_parts_of, defScope s_parts_of, [], []⟩
theorem b_parts_of {K : PySem.W.Frag} : ∀ fd, FunD K d_parts_of.name d_parts_of.qual d_parts_of.params d_parts_of.body d_parts_of.scope (d_parts_of.dvs K) (d_parts_of.kws K) (He.fAd K d_parts_of.at_) fd → Bw K fd ["text"] 1 [] gPos :=
  fun fd F => bw_pos F 1 rfl (fun _ _ _ _ _ _ us hl => match us, hl with | [_], _ => rfl)
abbrev s_law_rng : Stmt := top 24
abbrev N_law_rng : List Str := ["_law_script", "_law_k", "_law_cell"]
theorem sc_law_rng : FnScope N_law_rng ["_law_script", "_law_k"] (defScope s_law_rng) :=
  ⟨rfl, rfl, rfl, by decide +kernel, rfl, by decide +kernel, by decide +kernel⟩
def d_law_rng : He.DefD := ⟨("_law_rng", none), "_law_rng", "_law_rng", defArgs s_law_rng, defBody s_law_rng, defScope s_law_rng, [], []⟩
theorem b_law_rng {K : PySem.W.Frag} : ∀ fd, FunD K d_law_rng.name d_law_rng.qual d_law_rng.params d_law_rng.body d_law_rng.scope (d_law_rng.dvs K) (d_law_rng.kws K) (He.fAd K d_law_rng.at_) fd → Bw K fd ["_law_script", "_law_k"] 2 [] gPos :=
  fun fd F => bw_pos F 2 rfl (fun _ _ _ _ _ _ us hl => match us, hl with | [_, _], _ => rfl)
abbrev s_law_draw : Stmt := top 25
abbrev N_law_draw : List Str := ["_law_rng_here", "_law_many", "_law_digit"]
theorem sc_law_draw : FnScope N_law_draw ["_law_rng_here", "_law_many"] (defScope s_law_draw) :=
  ⟨rfl, rfl, rfl, by decide +kernel, rfl, by decide +kernel, by decide +kernel⟩
def d_law_draw : He.DefD := ⟨("_law_draw", none), "_law_draw", "_law_draw", defArgs s_law_draw, defBody s_law_draw, defScope s_law_draw, [], []⟩
theorem b_law_draw {K : PySem.W.Frag} : ∀ fd, FunD K d_law_draw.name d_law_draw.qual d_law_draw.params d_law_draw.body d_law_draw.scope (d_law_draw.dvs K) (d_law_draw.kws K) (He.fAd K d_law_draw.at_) fd → Bw K fd ["_law_rng_here", "_law_many"] 2 [] gPos :=
  fun fd F => bw_pos F 2 rfl (fun _ _ _ _ _ _ us hl => match us, hl with | [_, _], _ => rfl)
abbrev s_law_choice : Stmt := top 26
abbrev N_law_choice : List Str := ["_law_rng_here", "_law_options"]
theorem sc_law_choice : FnScope N_law_choice ["_law_rng_here", "_law_options"] (defScope s_law_choice) :=
  ⟨rfl, rfl, rfl, by decide +kernel, rfl, by decide +kernel, by decide +kernel⟩
def d_law_choice : He.DefD := ⟨("_law_choice", none), "_law_choice", "_law_choice", defArgs s_law_choice, defBody s_law_choice, defScope s_law_choice, [], []⟩
theorem b_law_choice {K : PySem.W.Frag} : ∀ fd, FunD K d_law_choice.name d_law_choice.qual d_law_choice.params d_law_choice.body d_law_choice.scope (d_law_choice.dvs K) (d_law_choice.kws K) (He.fAd K d_law_choice.at_) fd → Bw K fd ["_law_rng_here", "_law_options"] 2 [] gPos :=
  fun fd F => bw_pos F 2 rfl (fun _ _ _ _ _ _ us hl => match us, hl with | [_, _], _ => rfl)
abbrev s_law_word : Stmt := top 27
abbrev N_law_word : List Str := ["_law_rng_here", "_law_signs", "_law_k"]
theorem sc_law_word : FnScope N_law_word ["_law_rng_here"] (defScope s_law_word) :=
  ⟨rfl, rfl, rfl, by decide +kernel, rfl, by decide +kernel, by decide +kernel⟩
def d_law_word : He.DefD := ⟨("_law_word", none), "_law_word", "_law_word", defArgs s_law_word, defBody s_law_word, defScope s_law_word, [], []⟩
theorem b_law_word {K : PySem.W.Frag} : ∀ fd, FunD K d_law_word.name d_law_word.qual d_law_word.params d_law_word.body d_law_word.scope (d_law_word.dvs K) (d_law_word.kws K) (He.fAd K d_law_word.at_) fd → Bw K fd ["_law_rng_here"] 1 [] gPos :=
  fun fd F => bw_pos F 1 rfl (fun _ _ _ _ _ _ us hl => match us, hl with | [_], _ => rfl)
abbrev s_law_part : Stmt := top 28
abbrev N_law_part : List Str := ["_law_rng_here", "_law_depth", "_law_way"]
theorem sc_law_part : FnScope N_law_part ["_law_rng_here", "_law_depth"] (defScope s_law_part) :=
  ⟨rfl, rfl, rfl, by decide +kernel, rfl, by decide +kernel, by decide +kernel⟩
def d_law_part : He.DefD := ⟨("_law_part", none), "_law_part", "_law_part", defArgs s_law_part, defBody s_law_part, defScope s_law_part, [], []⟩
theorem b_law_part {K : PySem.W.Frag} : ∀ fd, FunD K d_law_part.name d_law_part.qual d_law_part.params d_law_part.body d_law_part.scope (d_law_part.dvs K) (d_law_part.kws K) (He.fAd K d_law_part.at_) fd → Bw K fd ["_law_rng_here", "_law_depth"] 2 [] gPos :=
  fun fd F => bw_pos F 2 rfl (fun _ _ _ _ _ _ us hl => match us, hl with | [_, _], _ => rfl)
abbrev s_law_text : Stmt := top 29
abbrev N_law_text : List Str := ["_law_rng_here", "_law_depth", "_law_k"]
theorem sc_law_text : FnScope N_law_text ["_law_rng_here", "_law_depth"] (defScope s_law_text) :=
  ⟨rfl, rfl, rfl, by decide +kernel, rfl, by decide +kernel, by decide +kernel⟩
def d_law_text : He.DefD := ⟨("_law_text", none), "_law_text", "_law_text", defArgs s_law_text, defBody s_law_text, defScope s_law_text, [], []⟩
theorem b_law_text {K : PySem.W.Frag} : ∀ fd, FunD K d_law_text.name d_law_text.qual d_law_text.params d_law_text.body d_law_text.scope (d_law_text.dvs K) (d_law_text.kws K) (He.fAd K d_law_text.at_) fd → Bw K fd ["_law_rng_here", "_law_depth"] 2 [] gPos :=
  fun fd F => bw_pos F 2 rfl (fun _ _ _ _ _ _ us hl => match us, hl with | [_, _], _ => rfl)
abbrev s_law_deep : Stmt := top 30
abbrev N_law_deep : List Str := ["_law_rng_here", "_law_depth", "_law_word_here"]
theorem sc_law_deep : FnScope N_law_deep ["_law_rng_here", "_law_depth"] (defScope s_law_deep) :=
  ⟨rfl, rfl, rfl, by decide +kernel, rfl, by decide +kernel, by decide +kernel⟩
def d_law_deep : He.DefD := ⟨("_law_deep", none), "_law_deep", "_law_deep", defArgs s_law_deep, defBody s_law_deep, defScope s_law_deep, [], []⟩
theorem b_law_deep {K : PySem.W.Frag} : ∀ fd, FunD K d_law_deep.name d_law_deep.qual d_law_deep.params d_law_deep.body d_law_deep.scope (d_law_deep.dvs K) (d_law_deep.kws K) (He.fAd K d_law_deep.at_) fd → Bw K fd ["_law_rng_here", "_law_depth"] 2 [] gPos :=
  fun fd F => bw_pos F 2 rfl (fun _ _ _ _ _ _ us hl => match us, hl with | [_, _], _ => rfl)
abbrev s_law_bent : Stmt := top 31
abbrev N_law_bent : List Str := ["_law_rng_here", "_law_line", "_law_turn", "_law_at", "_law_way", "_law_sign"]
theorem sc_law_bent : FnScope N_law_bent ["_law_rng_here", "_law_line"] (defScope s_law_bent) :=
  ⟨rfl, rfl, rfl, by decide +kernel, rfl, by decide +kernel, by decide +kernel⟩
def d_law_bent : He.DefD := ⟨("_law_bent", none), "_law_bent", "_law_bent", defArgs s_law_bent, defBody s_law_bent, defScope s_law_bent, [], []⟩
theorem b_law_bent {K : PySem.W.Frag} : ∀ fd, FunD K d_law_bent.name d_law_bent.qual d_law_bent.params d_law_bent.body d_law_bent.scope (d_law_bent.dvs K) (d_law_bent.kws K) (He.fAd K d_law_bent.at_) fd → Bw K fd ["_law_rng_here", "_law_line"] 2 [] gPos :=
  fun fd F => bw_pos F 2 rfl (fun _ _ _ _ _ _ us hl => match us, hl with | [_, _], _ => rfl)
abbrev s_law_word_end : Stmt := top 32
abbrev N_law_word_end : List Str := ["_law_line", "_law_at", "_law_end"]
theorem sc_law_word_end : FnScope N_law_word_end ["_law_line", "_law_at"] (defScope s_law_word_end) :=
  ⟨rfl, rfl, rfl, by decide +kernel, rfl, by decide +kernel, by decide +kernel⟩
def d_law_word_end : He.DefD := ⟨("_law_word_end", none), "_law_word_end", "_law_word_end", defArgs s_law_word_end, defBody s_law_word_end, defScope s_law_word_end, [], []⟩
theorem b_law_word_end {K : PySem.W.Frag} : ∀ fd, FunD K d_law_word_end.name d_law_word_end.qual d_law_word_end.params d_law_word_end.body d_law_word_end.scope (d_law_word_end.dvs K) (d_law_word_end.kws K) (He.fAd K d_law_word_end.at_) fd → Bw K fd ["_law_line", "_law_at"] 2 [] gPos :=
  fun fd F => bw_pos F 2 rfl (fun _ _ _ _ _ _ us hl => match us, hl with | [_, _], _ => rfl)
abbrev s_law_ended : Stmt := top 33
abbrev N_law_ended : List Str := ["_law_line", "_law_state", "_law_end"]
theorem sc_law_ended : FnScope N_law_ended ["_law_line", "_law_state", "_law_end"] (defScope s_law_ended) :=
  ⟨rfl, rfl, rfl, by decide +kernel, rfl, by decide +kernel, by decide +kernel⟩
def d_law_ended : He.DefD := ⟨("_law_ended", none), "_law_ended", "_law_ended", defArgs s_law_ended, defBody s_law_ended, defScope s_law_ended, [], []⟩
theorem b_law_ended {K : PySem.W.Frag} : ∀ fd, FunD K d_law_ended.name d_law_ended.qual d_law_ended.params d_law_ended.body d_law_ended.scope (d_law_ended.dvs K) (d_law_ended.kws K) (He.fAd K d_law_ended.at_) fd → Bw K fd ["_law_line", "_law_state", "_law_end"] 3 [] gPos :=
  fun fd F => bw_pos F 3 rfl (fun _ _ _ _ _ _ us hl => match us, hl with | [_, _, _], _ => rfl)
abbrev s_law_begun : Stmt := top 34
abbrev N_law_begun : List Str := ["_law_line", "_law_state", "_law_at", "_law_end"]
theorem sc_law_begun : FnScope N_law_begun ["_law_line", "_law_state"] (defScope s_law_begun) :=
  ⟨rfl, rfl, rfl, by decide +kernel, rfl, by decide +kernel, by decide +kernel⟩
def d_law_begun : He.DefD := ⟨("_law_begun", none), "_law_begun", "_law_begun", defArgs s_law_begun, defBody s_law_begun, defScope s_law_begun, [], []⟩
theorem b_law_begun {K : PySem.W.Frag} : ∀ fd, FunD K d_law_begun.name d_law_begun.qual d_law_begun.params d_law_begun.body d_law_begun.scope (d_law_begun.dvs K) (d_law_begun.kws K) (He.fAd K d_law_begun.at_) fd → Bw K fd ["_law_line", "_law_state"] 2 [] gPos :=
  fun fd F => bw_pos F 2 rfl (fun _ _ _ _ _ _ us hl => match us, hl with | [_, _], _ => rfl)
abbrev s_law_closed : Stmt := top 35
abbrev N_law_closed : List Str := ["_law_line", "_law_state"]
theorem sc_law_closed : FnScope N_law_closed ["_law_line", "_law_state"] (defScope s_law_closed) :=
  ⟨rfl, rfl, rfl, by decide +kernel, rfl, by decide +kernel, by decide +kernel⟩
def d_law_closed : He.DefD := ⟨("_law_closed", none), "_law_closed", "_law_closed", defArgs s_law_closed, defBody s_law_closed, defScope s_law_closed, [], []⟩
theorem b_law_closed {K : PySem.W.Frag} : ∀ fd, FunD K d_law_closed.name d_law_closed.qual d_law_closed.params d_law_closed.body d_law_closed.scope (d_law_closed.dvs K) (d_law_closed.kws K) (He.fAd K d_law_closed.at_) fd → Bw K fd ["_law_line", "_law_state"] 2 [] gPos :=
  fun fd F => bw_pos F 2 rfl (fun _ _ _ _ _ _ us hl => match us, hl with | [_, _], _ => rfl)
abbrev s_law_scanned : Stmt := top 36
abbrev N_law_scanned : List Str := ["_law_line", "_law_state", "_law_sign", "_law_ready"]
theorem sc_law_scanned : FnScope N_law_scanned ["_law_line"] (defScope s_law_scanned) :=
  ⟨rfl, rfl, rfl, by decide +kernel, rfl, by decide +kernel, by decide +kernel⟩
def d_law_scanned : He.DefD := ⟨("_law_scanned", none), "_law_scanned", "_law_scanned", defArgs s_law_scanned, defBody s_law_scanned, defScope s_law_scanned, [], []⟩
theorem b_law_scanned {K : PySem.W.Frag} : ∀ fd, FunD K d_law_scanned.name d_law_scanned.qual d_law_scanned.params d_law_scanned.body d_law_scanned.scope (d_law_scanned.dvs K) (d_law_scanned.kws K) (He.fAd K d_law_scanned.at_) fd → Bw K fd ["_law_line"] 1 [] gPos :=
  fun fd F => bw_pos F 1 rfl (fun _ _ _ _ _ _ us hl => match us, hl with | [_], _ => rfl)
abbrev s_law_told : Stmt := top 37
abbrev N_law_told : List Str := ["_law_line", "_law_found", "e", "_law_others", "_law_is_one"]
theorem sc_law_told : FnScope N_law_told ["_law_line"] (defScope s_law_told) :=
  ⟨rfl, rfl, rfl, by decide +kernel, rfl, by decide +kernel, by decide +kernel⟩
def d_law_told : He.DefD := ⟨("_law_told", none), "_law_told", "_law_told", defArgs s_law_told, defBody s_law_told, defScope s_law_told, [], []⟩
theorem b_law_told {K : PySem.W.Frag} : ∀ fd, FunD K d_law_told.name d_law_told.qual d_law_told.params d_law_told.body d_law_told.scope (d_law_told.dvs K) (d_law_told.kws K) (He.fAd K d_law_told.at_) fd → Bw K fd ["_law_line"] 1 [] gPos :=
  fun fd F => bw_pos F 1 rfl (fun _ _ _ _ _ _ us hl => match us, hl with | [_], _ => rfl)
abbrev s_law_right : Stmt := top 38
abbrev N_law_right : List Str := ["_law_line", "_law_due", "_law_found"]
theorem sc_law_right : FnScope N_law_right ["_law_line"] (defScope s_law_right) :=
  ⟨rfl, rfl, rfl, by decide +kernel, rfl, by decide +kernel, by decide +kernel⟩
def d_law_right : He.DefD := ⟨("_law_right", none), "_law_right", "_law_right", defArgs s_law_right, defBody s_law_right, defScope s_law_right, [], []⟩
theorem b_law_right {K : PySem.W.Frag} : ∀ fd, FunD K d_law_right.name d_law_right.qual d_law_right.params d_law_right.body d_law_right.scope (d_law_right.dvs K) (d_law_right.kws K) (He.fAd K d_law_right.at_) fd → Bw K fd ["_law_line"] 1 [] gPos :=
  fun fd F => bw_pos F 1 rfl (fun _ _ _ _ _ _ us hl => match us, hl with | [_], _ => rfl)
abbrev s_law : Stmt := top 39
abbrev N_law : List Str := ["_law_script", "_law_k", "_law_rng_here", "_law_texts", "_law_far", "_law_odd", "_law_line", "_law_one"]
theorem sc_law : FnScope N_law ["_law_script"] (defScope s_law) :=
  ⟨rfl, rfl, rfl, by decide +kernel, rfl, by decide +kernel, by decide +kernel⟩
def d_law : He.DefD := ⟨("law", none), "law", "law", defArgs s_law, defBody s_law, defScope s_law, [], []⟩
theorem b_law {K : PySem.W.Frag} : ∀ fd, FunD K d_law.name d_law.qual d_law.params d_law.body d_law.scope (d_law.dvs K) (d_law.kws K) (He.fAd K d_law.at_) fd → Bw K fd ["_law_script"] 1 [] gPos :=
  fun fd F => bw_pos F 1 rfl (fun _ _ _ _ _ _ us hl => match us, hl with | [_], _ => rfl)
abbrev s_InvalidText_init : Stmt := inClass (top 3) 0
abbrev N_InvalidText_init : List Str := ["self", "problem"]
theorem sc_InvalidText_init : IScope N_InvalidText_init ["self", "problem"] (defScope s_InvalidText_init) :=
  ⟨rfl, rfl, rfl, by decide +kernel, rfl, by decide +kernel, by decide +kernel, by decide +kernel, rfl, rfl⟩
def d_InvalidText_init : He.DefD := ⟨("InvalidText", some "__init__"), "__init__", "InvalidText.__init__", defArgs s_InvalidText_init, defBody s_InvalidText_init, defScope s_InvalidText_init, [], []⟩
def xB_InvalidText (K : PySem.W.Frag) : Bool := xclsB K (He.ga K "InvalidText") && (excB K (He.ga K "InvalidText") && xfunB K d_InvalidText_init (He.ga K "InvalidText"))
def fa : List He.Fa := ([.glo "InvalidError", .glo "InvalidName", .glo "InvalidText", .glo "InvalidKey", .glo "InvalidSource", .glo "InvalidCount", .int "MOST_DEPTH" 13, .str "SPACE" " ", .str "QUOTE" "'", .str "OPENING" "(", .str "CLOSING" ")", .str "FIRST" "nothing"] : List He.Fa) ++ ([.str "BEGUN" "an opening parenthesis", .str "ENDED" "a part", .str "SPACED" "a space", .str "WHOLE" "the whole text", .glo "token_end", .glo "may_follow", .glo "behind", .glo "parts_or_none", .glo "parts_of", .glo "_law_rng", .glo "_law_draw", .glo "_law_choice"] : List He.Fa) ++ ([.glo "_law_word", .glo "_law_part", .glo "_law_text", .glo "_law_deep", .glo "_law_bent", .glo "_law_word_end", .glo "_law_ended", .glo "_law_begun", .glo "_law_closed", .glo "_law_scanned", .glo "_law_told", .glo "_law_right"] : List He.Fa) ++ ([.glo "law", .free "ValueError", .free "range", .free "len", .free "isinstance", .free "str", .free "abs", .free "max", .free "divmod", .free "int", .free "min", .free "all"] : List He.Fa) ++ ([.free "super", .exm "InvalidText" "InvalidText" true, .noat "InvalidText" "problem", .noat "InvalidText" "told_parts", .meth "InvalidText" "__init__"] : List He.Fa)
def fn : List He.DefD := ([d_token_end, d_may_follow, d_behind, d_parts_or_none, d_parts_of, d_law_rng, d_law_draw, d_law_choice, d_law_word, d_law_part, d_law_text, d_law_deep] : List He.DefD) ++ ([d_law_bent, d_law_word_end, d_law_ended, d_law_begun, d_law_closed, d_law_scanned, d_law_told, d_law_right, d_law] : List He.DefD)
def xn : List He.DefD := [d_InvalidText_init]
def exB (K : PySem.W.Frag) : Bool := xB_InvalidText K && (decide (PySem.W.kitOne K (.ref (He.ga K "InvalidText")) (.ref (He.ga K "InvalidError")) = some true) && (decide (PySem.W.kitOne K (.ref (He.ga K "InvalidText")) (.type "ValueError") = some true) &&
  decide (PySem.W.kitAny K (.ref (He.ga K "InvalidText")) [.ref (He.ga K "InvalidCount"), .ref (He.ga K "InvalidKey"), .ref (He.ga K "InvalidName"), .ref (He.ga K "InvalidSource")] = some false)))
abbrev Txt (P : Program) (K : PySem.W.Frag) (mg : Str → Option Value) : Prop := TxX P fa fn xn exB K mg
theorem xb_InvalidText {P : Program} {K : PySem.W.Frag} {mg : Str → Option Value} (T : Txt P K mg) : xB_InvalidText K = true := (He.ba T.c.more).1
theorem x_InvalidText {P : Program} {K : PySem.W.Frag} {mg : Str → Option Value} (T : Txt P K mg) : ExcC K (He.ga K "InvalidText") ∧ XfC K (He.ga K "InvalidText") := excB_ok (He.ba (He.ba (xb_InvalidText T)).2).1
theorem m_InvalidText {P : Program} {w : World} {K : PySem.W.Frag} {mg : Str → Option Value} {base : Heap} (T : Txt P K mg) : XMk P w K mg base "InvalidText" (He.ga K "InvalidText") "InvalidText" ["problem"] := by
  have X := xclsB_ok (He.ba (xb_InvalidText T)).1
  have m0 : (He.Fa.meth "InvalidText" "__init__").ok K = true := T.fact 52
  obtain ⟨m1, m2⟩ := He.ba m0
  obtain ⟨fd, F⟩ := T.xfn 0 (d := d_InvalidText_init) (He.ba (He.ba (xb_InvalidText T)).2).2
  refine ⟨X.oex, T.glo 2, He.fAd K d_InvalidText_init.at_, fd, ["self", "problem"], He.eqO_ok m1, beq_iff_eq.mp (He.ba m2).1, ?_, ?_⟩
  · refine XFun.ok (k := 0) F sc_InvalidText_init X T.pf (T.free 48) rfl (fun _ => rfl) ⟨_, rfl, rfl⟩ (fun vs H Q E h => ?_) (fun cda cc A outer s H vs Q E h => ?_)
    · obtain ⟨a, args, rfl, hl, _⟩ := h
      rw [List.length_cons, hl]
      rfl
    · obtain ⟨a, args, rfl, hl, ha, hq⟩ := h
      obtain ⟨v0, rfl⟩ := Ab.args1 hl
      refine ⟨a, _, rfl, ha, _, (pss_one (ps_asg (pe_tup (pa_cons (pv 1) (pa_cons (pe_tup (pa_cons pe_str (pa_cons (pv 1) pa_nil))) pa_nil))) (pg_tup (n := 2) rfl (pgs_cons (Ab.pg_ost (pv 0)) (pgs_cons (Ab.pg_ost (pv 0)) pgs_nil))))), ?_⟩
      exact Ab.init1 X.oex (He.noat_ok (T.fact 50)) (He.noat_ok (T.fact 51)) ha hq
  · obtain ⟨oc, od, kV, doc, pm, an, cda, cc, ct, osl, ccl, cdd, cvs, ccs, tf, cl, cld, csl, rfl, _⟩ := F.ex
    exact Binds.all fun us hl => match us, hl with
      | [_, _], _ => rfl
end K21

set_option Elab.async false
set_option linter.all false
set_option maxRecDepth 100000
set_option maxHeartbeats 4000000
/-! the plain law: one machine for both scanners -/
namespace K21
inductive Q5
  | s0 | s1 | s2 | s3 | s4
deriving DecidableEq
structure Mc where
  fnd : List (List Nat)
  st : Q5
  dep : Nat
  beg : Nat
  pos : Nat
def cut (z : List Nat) (i j : Nat) : List Nat := (z.drop i).take (j - i)
def qEnd (z : List Nat) (i : Nat) : Nat := match (z.drop i).findIdx? (· == 39) with
  | some k => i + k + 1
  | none => 0
def wEnd (z : List Nat) (i : Nat) : Nat := i + ((z.drop i).takeWhile fun c => !(c == 32 || c == 40 || c == 41 || c == 39)).length
def tEnd (z : List Nat) (i : Nat) : Nat := if z.getD i 0 = 39 then qEnd z (i + 1) else wEnd z i
def step (z : List Nat) (m : Mc) : Option Mc :=
  if z.getD m.pos 0 = 41 then
    if m.st = .s1 ∨ m.st = .s2 then
      some ⟨if m.dep - 1 = 1 then m.fnd ++ [cut z m.beg (m.pos + 1)] else m.fnd, if m.dep - 1 = 0 then .s4 else .s2, m.dep - 1, m.beg, m.pos + 1⟩
    else none
  else if z.getD m.pos 0 = 32 then
    if m.st = .s2 then some ⟨m.fnd, .s3, m.dep, m.beg, m.pos + 1⟩ else none
  else if z.getD m.pos 0 = 40 then
    if m.st = .s0 ∨ m.st = .s1 ∨ m.st = .s3 then
      if m.dep + 1 ≤ 13 then some ⟨m.fnd, .s1, m.dep + 1, if m.dep = 1 then m.pos else m.beg, m.pos + 1⟩ else none
    else none
  else if (m.st = .s1 ∨ m.st = .s3) ∧ m.pos < tEnd z m.pos then
    some ⟨if m.dep = 1 then m.fnd ++ [cut z m.pos (tEnd z m.pos)] else m.fnd, .s2, m.dep, if m.dep = 1 then m.pos else m.beg, tEnd z m.pos⟩
  else none
def run (z : List Nat) : Nat → Mc → Option (List (List Nat))
  | 0, _ => none
  | n + 1, m => if m.pos < z.length then
      match step z m with
      | none => none
      | some m' => run z n m'
    else if m.st = .s4 then some m.fnd else none
def init : Mc := ⟨[], .s0, 0, 0, 0⟩
/-- what both find -/
def res (z : List Nat) : Option (List (List Nat)) := run z (z.length + 1) init
structure Ok (z : List Nat) (m : Mc) : Prop where
  h0 : m.st = .s0 → m.dep = 0 ∧ m.pos = 0
  h1 : m.st = .s1 ∨ m.st = .s2 ∨ m.st = .s3 → 1 ≤ m.dep
  h4 : m.st = .s4 → m.dep = 0
  hd : m.dep ≤ 13
  hp : m.pos ≤ z.length
  hf : m.fnd.length ≤ m.pos
  hb : m.beg ≤ m.pos
theorem ok_init (z : List Nat) : Ok z init := ⟨fun _ => ⟨rfl, rfl⟩, fun h => (by rcases h with h | h | h <;> cases h), fun h => (by cases h), by decide, Nat.zero_le _, Nat.zero_le _, Nat.le_refl _⟩
/-- on the way to the result -/
def Way (z : List Nat) (m : Mc) : Prop := Ok z m ∧ ∃ n, z.length < n + m.pos ∧ run z n m = res z
theorem way_init (z : List Nat) : Way z init := ⟨ok_init z, z.length + 1, Nat.lt_succ_self _, rfl⟩
theorem qEnd_le (z : List Nat) (i : Nat) : qEnd z i ≤ z.length := by
  unfold qEnd
  split
  · rename_i k h
    have := (List.findIdx?_eq_some_iff_getElem.mp h).1
    rw [List.length_drop] at this
    omega
  · exact Nat.zero_le _
theorem qEnd_gt (z : List Nat) (i : Nat) : qEnd z i = 0 ∨ i < qEnd z i := by
  unfold qEnd
  split
  · exact .inr (by omega)
  · exact .inl rfl
theorem wEnd_le (z : List Nat) (i : Nat) (h : i ≤ z.length) : wEnd z i ≤ z.length := by
  unfold wEnd
  have : ((z.drop i).takeWhile fun c => !(c == 32 || c == 40 || c == 41 || c == 39)).length ≤ (z.drop i).length := List.Sublist.length_le (List.takeWhile_sublist _)
  rw [List.length_drop] at this
  omega
theorem tEnd_le (z : List Nat) (i : Nat) (h : i ≤ z.length) : tEnd z i ≤ z.length := by
  unfold tEnd
  split
  · exact qEnd_le _ _
  · exact wEnd_le _ _ h
theorem way_step {z : List Nat} {m : Mc} (w : Way z m) (h : m.pos < z.length) : (step z m = none ∧ res z = none) ∨ ∃ m', step z m = some m' ∧ Way z m' ∧ m.pos < m'.pos := by
  obtain ⟨⟨h0, h1, h4, hd, hp, hf, hb⟩, n, hn, hr⟩ := w
  cases n with
  | zero => omega
  | succ n =>
    rw [run, if_pos h] at hr
    cases e : step z m with
    | none => rw [e] at hr; exact .inl ⟨rfl, hr.symm⟩
    | some m' =>
      rw [e] at hr
      refine .inr ⟨m', rfl, ?_⟩
      have key : Ok z m' ∧ m.pos < m'.pos := by
        clear hr hn
        unfold step at e
        split at e
        · split at e
          · rename_i hs
            cases e
            have hd1 : 1 ≤ m.dep := h1 (by rcases hs with q | q <;> simp [q])
            refine ⟨⟨fun q => ?_, fun q => ?_, fun q => ?_, ?_, h, ?_, Nat.le_succ_of_le hb⟩, Nat.lt_succ_self _⟩
            · simp only at q; split at q <;> cases q
            · simp only at q ⊢
              split at q
              · rcases q with q | q | q <;> cases q
              · omega
            · simp only at q ⊢
              split at q
              · assumption
              · cases q
            · simp only; omega
            · simp only; split <;> first | omega | (simp; omega)
          · cases e
        · split at e
          · split at e
            · rename_i hs
              cases e
              have hd1 : 1 ≤ m.dep := h1 (by simp [hs])
              exact ⟨⟨fun q => (by cases q), fun _ => hd1, fun q => (by cases q), hd, h, Nat.le_succ_of_le hf, Nat.le_succ_of_le hb⟩, Nat.lt_succ_self _⟩
            · cases e
          · split at e
            · split at e
              · split at e
                · cases e
                  exact ⟨⟨fun q => (by cases q), fun _ => Nat.succ_le_succ (Nat.zero_le _), fun q => (by cases q), by assumption, h, Nat.le_succ_of_le hf, (by simp only; split <;> omega)⟩, Nat.lt_succ_self _⟩
                · cases e
              · cases e
            · split at e
              · rename_i hs
                cases e
                have hd1 : 1 ≤ m.dep := h1 (by rcases hs.1 with q | q <;> simp [q])
                have := tEnd_le z m.pos hp
                refine ⟨⟨fun q => (by cases q), fun _ => hd1, fun q => (by cases q), hd, this, ?_, (by have := hs.2; simp only; split <;> omega)⟩, hs.2⟩
                simp only
                have := hs.2
                split <;> simp <;> omega
              · cases e
      exact ⟨⟨key.1, n, by have := key.2; omega, hr⟩, key.2⟩
theorem bg_le {z : List Nat} {m : Mc} (w : Way z m) (h : m.pos < z.length) : m.beg ≤ m.pos ∧ m.beg ≤ z.length := ⟨w.1.hb, by have := w.1.hb; omega⟩
theorem way_end {z : List Nat} {m : Mc} (w : Way z m) (h : ¬ m.pos < z.length) : res z = if m.st = .s4 then some m.fnd else none := by
  obtain ⟨ok, n, hn, hr⟩ := w
  cases n with
  | zero => have := ok.hp; omega
  | succ n => rw [run, if_neg h] at hr; exact hr.symm
end K21
namespace K21
open PySem L2 Ab
theorem res_len' {z : List Nat} {l : List (List Nat)} (h : res z = some l) : ∀ k m, z.length - m.pos ≤ k → Way z m → l.length ≤ z.length
  | k, m, hk, w => by
    by_cases hp : m.pos < z.length
    · rcases way_step w hp with ⟨_, h2⟩ | ⟨m', _, w', hl⟩
      · rw [h] at h2; cases h2
      · cases k with
        | zero => omega
        | succ k => exact res_len' h k m' (by omega) w'
    · have := way_end w hp
      rw [h] at this
      split at this
      · cases this
        have h1 := w.1.hf
        have h2 := w.1.hp
        omega
      · cases this
theorem res_len {z : List Nat} {l : List (List Nat)} (h : res z = some l) : l.length ≤ z.length := res_len' h _ init (Nat.le_refl _) (way_init z)
theorem wEnd_stop {z : List Nat} {i : Nat} (h : z.length ≤ i ∨ z.getD i 0 = 32 ∨ z.getD i 0 = 40 ∨ z.getD i 0 = 41 ∨ z.getD i 0 = 39) : wEnd z i = i := by
  unfold wEnd
  rcases Nat.lt_or_ge i z.length with hi | hi
  · rw [List.drop_eq_getElem_cons hi, List.takeWhile_cons]
    rw [List.getD_eq_getElem?_getD, List.getElem?_eq_getElem hi] at h
    simp only [Option.getD_some] at h
    have : (!(z[i] == 32 || z[i] == 40 || z[i] == 41 || z[i] == 39)) = false := by
      rcases h with h | h | h | h | h
      · omega
      all_goals simp [h]
    rw [this]
    simp
  · rw [List.drop_eq_nil_of_le hi]
    simp
theorem wEnd_go {z : List Nat} {i : Nat} (hi : i < z.length) (h : ¬ (z.getD i 0 = 32 ∨ z.getD i 0 = 40 ∨ z.getD i 0 = 41 ∨ z.getD i 0 = 39)) : wEnd z i = wEnd z (i + 1) := by
  unfold wEnd
  rw [List.drop_eq_getElem_cons hi, List.takeWhile_cons]
  rw [List.getD_eq_getElem?_getD, List.getElem?_eq_getElem hi] at h
  simp only [Option.getD_some] at h
  have : (!(z[i] == 32 || z[i] == 40 || z[i] == 41 || z[i] == 39)) = true := by
    simp only [not_or] at h
    simp [h]
  rw [this]
  simp
  omega
theorem fromIndex_nat {n i : Nat} (h : i ≤ n) : PySem.fromIndex n (i : Int) = i := by
  unfold PySem.fromIndex
  omega
theorem find_q (z : Str) (i : Nat) (h : i ≤ (cs z).length) : Txt.find3 z ⟨#[39]⟩ ((i : Int)) + 1 = (qEnd (cs z) i : Int) := by
  have lz := cs_len z
  have gd : ∀ v, z.cps.getD v 0 = (cs z).getD v 0 := fun v => by simp [cs, Array.getD_eq_getD_getElem?]
  rcases PySem.StrLaws.find3_spec z 39 (i : Int) with ⟨e, hn⟩ | ⟨k, e, h1, h2, h3, h4⟩
  · rw [e]
    unfold qEnd
    have : ((cs z).drop i).findIdx? (· == 39) = none := by
      rw [List.findIdx?_eq_none_iff]
      intro x hx
      obtain ⟨j, hj, rfl⟩ := List.mem_iff_getElem.mp hx
      rw [List.length_drop] at hj
      have := hn (i + j) (by rw [fromIndex_nat (by omega)]; omega) (by omega)
      rw [gd, List.getD_eq_getElem?_getD, List.getElem?_eq_getElem (by omega)] at this
      simpa using this
    rw [this]
    rfl
  · rw [e]
    rw [fromIndex_nat (by omega)] at h1 h4
    unfold qEnd
    have : ((cs z).drop i).findIdx? (· == 39) = some (k - i) := by
      rw [List.findIdx?_eq_some_iff_getElem]
      refine ⟨by rw [List.length_drop]; omega, ?_, fun j hj => ?_⟩
      · rw [gd, List.getD_eq_getElem?_getD, List.getElem?_eq_getElem (by omega)] at h3
        have e1 : i + (k - i) = k := by omega
        simp only [List.getElem_drop, e1]
        simpa using h3
      · have := h4 (i + j) (by omega) (by omega)
        rw [gd, List.getD_eq_getElem?_getD, List.getElem?_eq_getElem (by omega)] at this
        simpa using this
    rw [this]
    simp only
    omega
theorem cutS_cut (z : Str) (i j : Nat) (h1 : i ≤ (cs z).length) (h2 : j ≤ (cs z).length) : cs (cutS z (some (i : Int)) (some (j : Int))) = cut (cs z) i j := by
  have lz := cs_len z
  have e : ∀ {n i : Nat} {d}, i ≤ n → HT.sIx n d (some (i : Int)) = i := fun {n i d} h => by
    rw [HT.sIx_nat]
    omega
  unfold cutS cut
  rw [e (by omega), e (by omega)]
end K21

set_option Elab.async false
set_option linter.all false
set_option maxRecDepth 100000
set_option maxHeartbeats 4000000
namespace K21
open PySem PySem.Spec PyProof.Rows L2 Ab
local macro_rules | `(tactic| walk_at "rd") => `(tactic| simp only [start_eq, List.map_cons, List.map_nil, List.length_cons, List.length_nil, List.replicate_succ, List.replicate_zero, List.cons_append, List.nil_append, Nat.reduceSub, Nat.reduceAdd, Nat.zero_add,
  tSeq, tAsg, tIf, tTest, tOp, tVar, tCB, tCons, tNil, tC, gName, tRet, tLst, tTup, tIfS, tPar3, tDrop, tB, tAnd, tOr, tNot, tAndV, tOrV, tNotV, tUn, tNext, tNever, gTup, gSub, gCons, gNil, rSetL, tPar, rCat, rRep, rAppend, rAll, rAny, tM1, tBM, tBM0, tDisp, tPairs, rIn, tChain, tPart, tFld, tFmt, tJs, rRepS, tSl, tNoPart, rSlS, tAug, ipI, tDGet, rSetD, tOX, tMkX, rSimE, rSimN, tFor_eq, tLc_eq, iRng1, iRng2, iList, iTup, iStr, rI0, rI, rU, rIxL, rIxT, rIxS, tO, gPos, StX.tMakeR, tDNewK, sFld, ClX.tCVal, rSortedS, rEq, rNe, scal_ii, scal_ss, scal_bb, scal_nn, scal_is, scal_si, cx_K, cx_Kn,
  V.int.injEq, V.ref.injEq, V.str.injEq, V.bl.injEq, List.cons.injEq, Bool.not_eq_true', decide_eq_true_eq, decide_eq_false_iff_not, if_true, if_false, Bool.not_true, Bool.not_false, Bool.false_eq_true, not_true_eq_false, not_false_eq_true, and_assoc, and_true, true_and, exists_eq_left', exists_eq_left, exists_and_left, reduceCtorEq, false_and, and_false, exists_false, or_false, false_or,
  List.getElem?_cons_zero, List.getElem?_cons_succ, Option.some.injEq, List.set_cons_zero, List.set_cons_succ])
local macro_rules | `(tactic| walk_at "rk") => `(tactic| simp only [start_eq, List.map_cons, List.map_nil, List.length_cons, List.length_nil, List.replicate_succ, List.replicate_zero, List.cons_append, List.nil_append, Nat.reduceSub, Nat.reduceAdd, Nat.zero_add,
  tSeq, tAsg, tTest, tOp, tVar, tCB, tCons, tNil, tC, gName, tRet, tLst, tTup, tIfS, tPar3, tDrop, tB, tAnd, tOr, tNot, tNotV, tUn, tNext, tNever, gTup, gSub, gCons, gNil, rSetL, tPar, rCat, rRep, rAppend, rAll, rAny, tM1, tBM, tBM0, tDisp, tPairs, rIn, tChain, tPart, tFld, tFmt, tJs, rRepS, tSl, tNoPart, rSlS, tAug, ipI, tDGet, rSetD, tOX, tMkX, rSimE, rSimN, tFor_eq, tLc_eq, iRng1, iRng2, iList, iTup, iStr, rI0, rI, rU, rIxL, rIxT, rIxS, tO, gPos, StX.tMakeR, tDNewK, sFld, ClX.tCVal, rSortedS, rEq, rNe, scal_ii, scal_ss, scal_bb, scal_nn, scal_is, scal_si, cx_K, cx_Kn,
  V.int.injEq, V.ref.injEq, V.str.injEq, V.bl.injEq, List.cons.injEq, Bool.not_eq_true', decide_eq_true_eq, decide_eq_false_iff_not, if_true, if_false, Bool.not_true, Bool.not_false, Bool.false_eq_true, not_true_eq_false, not_false_eq_true, and_assoc, and_true, true_and, exists_eq_left', exists_eq_left, exists_and_left, reduceCtorEq, false_and, and_false, exists_false, or_false, false_or,
  List.getElem?_cons_zero, List.getElem?_cons_succ, Option.some.injEq, List.set_cons_zero, List.set_cons_succ])
section
variable {P : Program} {w : World} {K : PySem.W.Frag} {mg : Str → Option Value} {base : Heap}
theorem ok_law_rng (T : Txt P K mg) : Fo false P w K mg base CX0 1 d_law_rng ["_law_script", "_law_k"] (spRng K) := by
  obtain ⟨fd, F⟩ := T.dfn 5 (d := d_law_rng)
  refine ⟨fd, Fq.mk' F sc_law_rng (fun vs H Q E h => ?_) (fun cdv A outer s H vs Q E hg hr h => ?_), F⟩
  · obtain ⟨a, ns, k, rfl, _⟩ := h
    rfl
  obtain ⟨a, ns, k, rfl, hS, k0, k1, hQ⟩ := h
  obtain ⟨k, rfl⟩ := Int.eq_ofNat_of_zero_le k0
  refine ⟨_, (PSs.nox (pss_cons (ps_set (i := 2) sc_law_rng.nd rfl (Or.inl rfl) (pe_ifExp (pt_cmpR op_lt (pv 1) (pe_callB call_len_seq rfl (T.free 39) (by decide +kernel) (pa_cons (pv 0) pa_nil)) (nomark _)) (pe_callB call_abs rfl (T.free 42) (by decide +kernel) (pa_cons (pe_ix ix_list (pv 0) (pv 1) (fun _ _ => rfl)) pa_nil)) pe_int))
      (pss_one (ps_ret (pe_lst (pa_cons (pe_callB (call_max2 rfl) rfl (T.free 43) (by decide +kernel) (pa_cons pe_int (pa_cons (pe_op op_sub (pv 2) (pe_op op_pow pe_int pe_int)) pa_nil))) (pa_cons (pe_op op_add (pe_op op_mod (pe_callTy call_int1 rfl (T.free 45) (by decide +kernel) (pa_cons (pe_op op_pow (pe_op op_add (pe_op op_add (pe_op op_mod (pe_callTy call_int1 rfl (T.free 45) (by decide +kernel) (pa_cons (pv 2) pa_nil)) pe_int) (pe_op op_mul pe_int (pv 1))) pe_int) pe_int) pa_nil)) pe_int) pe_int) pa_nil))))))), ?_⟩
  walk_at "rd"
  refine ⟨_, Or.inl hS, ?_⟩
  have fin : ∀ (c x : Int), 0 ≤ c → ∀ p, H p = none → Q (V.ref p) (upd H p (.lst [.int x, .int (c % 2147483477 + 1)])) := fun c x hc p hp =>
    hQ p _ hp (Ex.new hp) ⟨_, _, upd_same, by omega, by omega⟩
  have hm : CMul 4127 k := Or.inl ⟨by decide, by decide⟩
  have hsz : 2 ≤ sizeLine := by decide
  have sq : ∀ z : Int, 0 ≤ z ^ Int.toNat 2 := fun z => by
    have e : Int.toNat 2 = 2 := rfl
    rw [e, Int.pow_succ, Int.pow_succ, Int.pow_zero, Int.one_mul]
    rcases Int.le_total 0 z with h | h
    · exact Int.mul_nonneg h h
    · exact Int.mul_nonneg_of_nonpos_of_nonpos h h
  refine ite2 (fun hlt => ?_) (fun _ => ?_)
  · have hl : k < ns.length := by
      have h1 : (k : Int) < ((List.map V.int ns).length : Int) := hlt
      rw [List.length_map] at h1
      omega
    refine ⟨_, hS, .int (ns[k]), ?_, _, rfl, ⟨by decide, by decide, by decide⟩, by decide, hm, ⟨by decide, by decide, ?_⟩, by decide, hsz, ?_⟩
    · refine atI_nat ?_
      simp [hl]
    · have h1 := Int.emod_nonneg (if ns[k] < 0 then -ns[k] else ns[k]) (show (2147483549 : Int) ≠ 0 by decide)
      have h2 := Int.emod_lt_of_pos (if ns[k] < 0 then -ns[k] else ns[k]) (show (0 : Int) < 2147483549 by decide)
      omega
    · exact fin _ _ (sq _)
  · refine ⟨⟨by decide, by decide, by decide⟩, by decide, hm, ⟨by decide, by decide, by omega⟩, by decide, hsz, ?_⟩
    exact fin _ _ (sq _)
theorem ok_law_draw (T : Txt P K mg) : Fo false P w K mg base CX0 1 d_law_draw ["_law_rng_here", "_law_many"] spDraw := by
  obtain ⟨fd, F⟩ := T.dfn 6 (d := d_law_draw)
  refine ⟨fd, Fq.mk' F sc_law_draw (fun vs H Q E h => ?_) (fun cdv A outer s H vs Q E hg hr h => ?_), F⟩
  · obtain ⟨r, m, rfl, _⟩ := h
    rfl
  obtain ⟨r, m, rfl, ⟨a, b, hR, b0, b1⟩, m0, m1, hQ⟩ := h
  refine ⟨_, (PSs.nox (pss_cons (ps_if (pt_cmpR op_gt (pe_ix ix_list (pv 0) pe_int (fun _ _ => rfl)) pe_int (nomark _)) (pss_cons (ps_asg (pe_callB call_divmod rfl (T.free 44) (by decide +kernel) (pa_cons (pe_ix ix_list (pv 0) pe_int (fun _ _ => rfl)) (pa_cons (pv 1) pa_nil))) (pg_tup (n := 2) rfl (pgs_cons (pg_sub (pv 0) pe_int set_list) (pgs_cons (pg_name (i := 2) sc_law_draw.nd rfl (Or.inl rfl)) pgs_nil))))
      (pss_one (ps_ret (pv 2)))) pss_nil)
      (pss_cons (ps_asg (pe_op op_mod (pe_callTy call_int1 rfl (T.free 45) (by decide +kernel) (pa_cons (pe_op op_add (pe_op op_mul (pe_ix ix_list (pv 0) pe_int (fun _ _ => rfl)) pe_int) pe_int) pa_nil)) pe_int) (pg_sub (pv 0) pe_int set_list))
      (pss_one (ps_ret (pe_op op_mod (pe_callTy call_int1 rfl (T.free 45) (by decide +kernel) (pa_cons (pe_op op_fdiv (pe_op op_mod (pe_callTy call_int1 rfl (T.free 45) (by decide +kernel) (pa_cons (pe_op op_mul (pe_ix ix_list (pv 0) pe_int (fun _ _ => rfl)) (pe_ix ix_list (pv 0) pe_int (fun _ _ => rfl))) pa_nil)) pe_int) pe_int) pa_nil)) (pv 1))))))), ?_⟩
  walk_at "rd"
  have s0 := SqL.of (K := K) hR
  have md : ∀ z : Int, 0 ≤ z % m ∧ z % m < m := fun z => ⟨Int.emod_nonneg _ (by omega), Int.emod_lt_of_pos _ m0⟩
  refine ⟨_, s0, .int a, rfl, _, rfl, ite2 (fun _ => ?_) (fun _ => ?_)⟩
  · refine ⟨_, s0, .int a, rfl, _, rfl, ⟨m0, by omega⟩, fun p hp => ⟨_, SqT.of upd_same, rfl, ?_⟩⟩
    refine ⟨_, _, rfl, _, (upd_ne (ne_of_none hR hp)).trans hR, 0, rfl, _, _, rfl, rfl, ?_⟩
    exact hQ _ _ (md a).1 (md a).2 ⟨(Fx.keep Fx.refl hp).own, a / m, b, upd_same, b0, b1⟩
  · have c0 := Int.emod_nonneg (b * 39373 + 9973) (show (2147483629 : Int) ≠ 0 by decide)
    have c1 := Int.emod_lt_of_pos (b * 39373 + 9973) (show (0 : Int) < 2147483629 by decide)
    refine ⟨_, s0, .int b, rfl, _, rfl, Or.inl ⟨by omega, by omega⟩, by decide, _, hR, 1, rfl, _, SqL.of upd_same, _, rfl, _, SqL.of upd_same, _, rfl, _, rfl, _, rfl,
      Or.inl ⟨by omega, by omega⟩, by decide, ⟨by decide, by decide⟩, m0, ?_⟩
    exact hQ _ _ (md _).1 (md _).2 ⟨Fx.refl.own, a, _, upd_same, c0, by omega⟩
theorem ok_law_choice (T : Txt P K mg) : Fo false P w K mg base CX0 2 d_law_choice ["_law_rng_here", "_law_options"] (spChoice K) := by
  obtain ⟨fd, F⟩ := T.dfn 7 (d := d_law_choice)
  refine ⟨fd, Fq.mk' F sc_law_choice (fun vs H Q E h => ?_) (fun cdv A outer s H vs Q E hg hr h => ?_), F⟩
  · obtain ⟨r, a, xs, rfl, _⟩ := h
    rfl
  obtain ⟨r, a, xs, rfl, hR, ne, hS, hx, hl, hQ⟩ := h
  refine ⟨_, (PSs.nox (pss_one (ps_ret (pe_ix ix_list (pv 1) (pe_o (ok_law_draw T) (T.glo 22) (b_law_draw) gd_false (hr.mono (by omega)) rfl pass0 (pa_cons (pv 0) (pa_cons (pe_callB call_len_seq rfl (T.free 39) (by decide +kernel) (pa_cons (pv 1) pa_nil)) pa_nil))) (fun _ _ => rfl))))), ?_⟩
  walk_at "rd"
  have hpos : 0 < xs.length := List.length_pos_iff.mpr hx
  refine ⟨_, Or.inl hS, r, _, rfl, hR, by omega, by omega, fun k H' k0 k1 hD => ?_⟩
  obtain ⟨k, rfl⟩ := Int.eq_ofNat_of_zero_le k0
  have hk : k < xs.length := by omega
  exact ⟨_, _, rfl, hD.seqL ne hS, xs[k], atI_nat (by simp [hk]), hQ _ _ (List.getElem_mem hk) hD⟩
theorem ok_law_choiceS (T : Txt P K mg) : Fo false P w K mg base CX0 2 d_law_choice ["_law_rng_here", "_law_options"] spChoiceS := by
  obtain ⟨fd, F⟩ := T.dfn 7 (d := d_law_choice)
  refine ⟨fd, Fq.mk' F sc_law_choice (fun vs H Q E h => ?_) (fun cdv A outer s H vs Q E hg hr h => ?_), F⟩
  · obtain ⟨r, z, rfl, _⟩ := h
    rfl
  obtain ⟨r, z, rfl, hR, hx, hl, hQ⟩ := h
  refine ⟨_, (PSs.nox (pss_one (ps_ret (pe_ix ix_str (pv 1) (pe_o (ok_law_draw T) (T.glo 22) (b_law_draw) gd_false (hr.mono (by omega)) rfl pass0 (pa_cons (pv 0) (pa_cons (pe_callB call_len_str rfl (T.free 39) (by decide +kernel) (pa_cons (pv 1) pa_nil)) pa_nil))) (fun _ _ => rfl))))), ?_⟩
  walk_at "rd"
  have hpos : 0 < z.cps.toList.length := List.length_pos_iff.mpr hx
  have lz : z.length = z.cps.toList.length := cs_len z
  have hs : z.length ≤ sizeLine := Nat.le_trans (show z.length ≤ 100000 by omega) (by decide)
  refine ⟨hs, r, z.length, rfl, hR, by omega, by omega, fun k H' k0 k1 hD => ?_⟩
  obtain ⟨k, rfl⟩ := Int.eq_ofNat_of_zero_le k0
  have hk : k < (cs z).length := by show k < z.cps.toList.length; omega
  exact ⟨_, rfl, hs, (cs z)[k], atI_nat (by simp [hk]), hQ _ _ (List.getElem_mem hk) hD⟩
end
end K21

set_option Elab.async false
set_option linter.all false
set_option maxRecDepth 100000
set_option maxHeartbeats 4000000
namespace K21
open PySem PySem.Spec PyProof.Rows L2 Ab
local macro_rules | `(tactic| walk_at "rd") => `(tactic| simp only [start_eq, List.map_cons, List.map_nil, List.length_cons, List.length_nil, List.replicate_succ, List.replicate_zero, List.cons_append, List.nil_append, Nat.reduceSub, Nat.reduceAdd, Nat.zero_add,
  tSeq, tAsg, tIf, tTest, tOp, tVar, tCB, tCons, tNil, tC, gName, tRet, tLst, tTup, tIfS, tPar3, tDrop, tB, tAnd, tOr, tNot, tAndV, tOrV, tNotV, tUn, tNext, tNever, gTup, gSub, gCons, gNil, rSetL, tPar, rCat, rRep, rAppend, rAll, rAny, tM1, tBM, tBM0, tDisp, tPairs, rIn, tChain, tPart, tFld, tFmt, tJs, rRepS, tSl, tNoPart, rSlS, tAug, ipI, tDGet, rSetD, tOX, tMkX, rSimE, rSimN, tFor_eq, tLc_eq, iRng1, iRng2, iList, iTup, iStr, rI0, rI, rU, rIxL, rIxT, rIxS, tO, gPos, StX.tMakeR, tDNewK, sFld, ClX.tCVal, rSortedS, rEq, rNe, scal_ii, scal_ss, scal_bb, scal_nn, scal_is, scal_si, cx_K, cx_Kn,
  V.int.injEq, V.ref.injEq, V.str.injEq, V.bl.injEq, List.cons.injEq, Bool.not_eq_true', decide_eq_true_eq, decide_eq_false_iff_not, if_true, if_false, Bool.not_true, Bool.not_false, Bool.false_eq_true, not_true_eq_false, not_false_eq_true, and_assoc, and_true, true_and, exists_eq_left', exists_eq_left, exists_and_left, reduceCtorEq, false_and, and_false, exists_false, or_false, false_or,
  List.getElem?_cons_zero, List.getElem?_cons_succ, Option.some.injEq, List.set_cons_zero, List.set_cons_succ])
local macro_rules | `(tactic| walk_at "rk") => `(tactic| simp only [start_eq, List.map_cons, List.map_nil, List.length_cons, List.length_nil, List.replicate_succ, List.replicate_zero, List.cons_append, List.nil_append, Nat.reduceSub, Nat.reduceAdd, Nat.zero_add,
  tSeq, tAsg, tTest, tOp, tVar, tCB, tCons, tNil, tC, gName, tRet, tLst, tTup, tIfS, tPar3, tDrop, tB, tAnd, tOr, tNot, tNotV, tUn, tNext, tNever, gTup, gSub, gCons, gNil, rSetL, tPar, rCat, rRep, rAppend, rAll, rAny, tM1, tBM, tBM0, tDisp, tPairs, rIn, tChain, tPart, tFld, tFmt, tJs, rRepS, tSl, tNoPart, rSlS, tAug, ipI, tDGet, rSetD, tOX, tMkX, rSimE, rSimN, tFor_eq, tLc_eq, iRng1, iRng2, iList, iTup, iStr, rI0, rI, rU, rIxL, rIxT, rIxS, tO, gPos, StX.tMakeR, tDNewK, sFld, ClX.tCVal, rSortedS, rEq, rNe, scal_ii, scal_ss, scal_bb, scal_nn, scal_is, scal_si, cx_K, cx_Kn,
  V.int.injEq, V.ref.injEq, V.str.injEq, V.bl.injEq, List.cons.injEq, Bool.not_eq_true', decide_eq_true_eq, decide_eq_false_iff_not, if_true, if_false, Bool.not_true, Bool.not_false, Bool.false_eq_true, not_true_eq_false, not_false_eq_true, and_assoc, and_true, true_and, exists_eq_left', exists_eq_left, exists_and_left, reduceCtorEq, false_and, and_false, exists_false, or_false, false_or,
  List.getElem?_cons_zero, List.getElem?_cons_succ, Option.some.injEq, List.set_cons_zero, List.set_cons_succ])
def tokE (z : List Nat) (i : Nat) : Nat := if z.getD i 0 = 32 ∨ z.getD i 0 = 40 ∨ z.getD i 0 = 41 then i + 1 else tEnd z i
def stP : Q5 → Str
  | .s0 => "nothing"
  | .s1 => "an opening parenthesis"
  | .s2 => "a part"
  | .s3 => "a space"
  | .s4 => "the whole text"
def mayF (t : Str) (q : Q5) : Bool := if t = "(" then decide (q = .s0 ∨ q = .s1 ∨ q = .s3) else if t = ")" then decide (q = .s1 ∨ q = .s2) else if t = " " then decide (q = .s2) else decide (q = .s1 ∨ q = .s3)
def behF (t : Str) (d : Int) : Q5 := if t = "(" then .s1 else if t = " " then .s3 else if d = 0 then .s4 else .s2
def spTokEnd : Sp := fun vs H Q _ => ∃ (z : Str) (i : Nat), vs = [.str z, .int i] ∧ i < (cs z).length ∧ (cs z).length ≤ 200000 ∧ ∀ H', Ex H H' → Q (.int (tokE (cs z) i)) H'
def spMay : Sp := fun vs H Q _ => ∃ (t : Str) (q : Q5), vs = [.str t, .str (stP q)] ∧ ∀ H', Ex H H' → Q (.bl (mayF t q)) H'
def spBehind : Sp := fun vs H Q _ => ∃ (t : Str) (d : Int), vs = [.str t, .int d] ∧ ∀ H', Ex H H' → Q (.str (stP (behF t d))) H'
def toV (l : List Nat) : V := .str ⟨l.toArray⟩
def spParts : Sp := fun vs H Q _ => ∃ z : Str, vs = [.str z] ∧ (cs z).length ≤ 200000 ∧ (res (cs z) = none → ∀ H', Ex H H' → Q .non H') ∧
  ∀ l, res (cs z) = some l → ∀ D H', H D = none → Ex H H' → H' D = some (.lst (l.map toV)) → Q (.ref D) H'
theorem sp1 : Str.ofString " " = ⟨#[32]⟩ := by decide +kernel
theorem op1 : Str.ofString "(" = ⟨#[40]⟩ := by decide +kernel
theorem cl1 : Str.ofString ")" = ⟨#[41]⟩ := by decide +kernel
theorem qu1 : Str.ofString "'" = ⟨#[39]⟩ := by decide +kernel
theorem one_eq {c d : Nat} : (⟨#[c]⟩ : Str) = ⟨#[d]⟩ ↔ c = d := by
  constructor
  · intro h
    have := congrArg (fun z : Str => z.cps.toList) h
    simpa using this
  · rintro rfl; rfl
theorem one_q {c : Nat} : (⟨#[c]⟩ : Str) = Str.ofString "'" ↔ c = 39 := by rw [qu1, one_eq]
theorem eqV_one {c d : Nat} : eqV (.str ⟨#[d]⟩) (.str ⟨#[c]⟩) = decide (c = d) := by
  show ((⟨#[d]⟩ : Str) == ⟨#[c]⟩) = _
  by_cases h : c = d
  · subst h; simp
  · rw [decide_eq_false h]
    exact beq_eq_false_iff_ne.mpr fun q => h (one_eq.mp q).symm
theorem in3 {c : Nat} : inV (.str ⟨#[c]⟩) [.str (Str.ofString " "), .str (Str.ofString "("), .str (Str.ofString ")")] = decide (c = 32 ∨ c = 40 ∨ c = 41) := by
  rw [sp1, op1, cl1]
  simp [inV, eqV_one, Bool.decide_or]
theorem in4 {c : Nat} : inV (.str ⟨#[c]⟩) [.str (Str.ofString " "), .str (Str.ofString "("), .str (Str.ofString ")"), .str (Str.ofString "'")] = decide (c = 32 ∨ c = 40 ∨ c = 41 ∨ c = 39) := by
  rw [sp1, op1, cl1, qu1]
  simp [inV, eqV_one, Bool.decide_or]
theorem tok1 {z t : Str} {i c : Nat} (hi : i < (cs z).length) (hc : (cs z).getD i 0 = c) (ht : t = ⟨#[c]⟩) : cutS z (some (i : Int)) (some ((i + 1 : Nat) : Int)) = t := by
  refine cs_inj ?_
  rw [cutS_cut z i (i + 1) (by omega) (by omega), ht]
  unfold cut
  rw [List.drop_eq_getElem_cons hi, show i + 1 - i = 1 by omega]
  rw [List.getD_eq_getElem?_getD, List.getElem?_eq_getElem hi] at hc
  simp at hc
  simp [hc]
theorem tok2 {z t : Str} {i j c : Nat} (hi : i < j) (hj : j ≤ (cs z).length) (hc : (cs z).getD i 0 ≠ c) (ht : t = ⟨#[c]⟩) : cutS z (some (i : Int)) (some (j : Int)) ≠ t := by
  intro h
  have h2 := congrArg cs h
  rw [cutS_cut z i j (by omega) (by omega), ht] at h2
  unfold cut at h2
  have hi' : i < (cs z).length := by omega
  rw [List.drop_eq_getElem_cons hi', show j - i = (j - i - 1) + 1 by omega, List.take_succ_cons] at h2
  have h3 := (List.cons.inj h2).1
  rw [List.getD_eq_getElem?_getD, List.getElem?_eq_getElem hi'] at hc
  exact hc h3
theorem at_get {z : List Nat} {i : Nat} (h : i < z.length) : atI z (i : Int) = some (z.getD i 0) := atI_nat (by rw [List.getD_eq_getElem?_getD, List.getElem?_eq_getElem h]; rfl)
section
variable {P : Program} {w : World} {K : PySem.W.Frag} {mg : Str → Option Value} {base : Heap}
theorem ok_token_end (T : Txt P K mg) : Fo false P w K mg base CX0 1 d_token_end ["text", "start"] spTokEnd := by
  obtain ⟨fd, F⟩ := T.dfn 0 (d := d_token_end)
  refine ⟨fd, Fq.mk' F sc_token_end (fun vs H Q E h => ?_) (fun cdv A outer s H vs Q E hg hr h => ?_), F⟩
  · obtain ⟨z, i, rfl, _⟩ := h
    rfl
  obtain ⟨z, i, rfl, hi, hz, hQ⟩ := h
  refine ⟨_, (PSs.nox (pss_cons (ps_if (pt_cmpR op_in_seq (pe_ix ix_str (pv 0) (pv 1) (fun _ _ => rfl)) (pe_tup (pa_cons (pe_gs rfl (T.str 7)) (pa_cons (pe_gs rfl (T.str 9)) (pa_cons (pe_gs rfl (T.str 10)) pa_nil)))) (by rfl)) (pss_one (ps_ret (pe_op op_add (pv 1) pe_int))) pss_nil)
      (pss_cons (ps_if (pt_cmpR op_eq (pe_ix ix_str (pv 0) (pv 1) (fun _ _ => rfl)) (pe_gs rfl (T.str 8)) (nomark _)) (pss_one (ps_ret (pe_op op_add (pe_bm PySem.F.plainAttrs_str PySem.F.slot_str_find PySem.F.type_str_find mt_find3 (pv 0) (pa_cons (pe_gs rfl (T.str 8)) (pa_cons (pe_op op_add (pv 1) pe_int) pa_nil))) pe_int))) pss_nil)
      (pss_cons (ps_set (i := 2) sc_token_end.nd rfl (Or.inl rfl) (pv 1))
      (pss_cons (ps_while PassesOwn.never (PW.pt (pw_and (pt_cmpR op_lt (pv 2) (pe_callB call_len_str rfl (T.free 39) (by decide +kernel) (pa_cons (pv 0) pa_nil)) (nomark _)) (pw_and1 (pt_cmpR op_notIn_seq (pe_ix ix_str (pv 0) (pv 2) (fun _ _ => rfl)) (pe_tup (pa_cons (pe_gs rfl (T.str 7)) (pa_cons (pe_gs rfl (T.str 9)) (pa_cons (pe_gs rfl (T.str 10)) (pa_cons (pe_gs rfl (T.str 8)) pa_nil))))) (by rfl))))) (pss_one (ps_aug (i := 2) sc_token_end.nd rfl (Or.inl rfl) pe_int ip_add)))
      (pss_one (ps_ret (pv 2)))))))), ?_⟩
  walk_at "rd"
  have lz := cs_len z
  have hzl : z.length ≤ sizeLine := Nat.le_trans (show z.length ≤ 1000000 by omega) (by decide)
  refine ⟨hzl, _, at_get hi, by decide, fun p hp => ⟨_, .inr (SqT.of upd_same), rfl, rfl, ?_⟩⟩
  rw [in3]
  have ex : Ex H (upd H p (HO.tup [V.str (Str.ofString " "), V.str (Str.ofString "("), V.str (Str.ofString ")")])) := Ex.new hp
  refine ite2 (fun h1 => ?_) (fun h1 => ⟨hzl, _, at_get hi, ite2 (fun h2 => ⟨rfl, ?_⟩) (fun h2 => ?_)⟩)
  · have h1 := of_decide_eq_true h1
    have e : tokE (cs z) i = i + 1 := if_pos h1
    have := hQ _ ex
    rw [e] at this
    exact this
  · have h1 : ¬ _ := fun q => h1 (decide_eq_true q)
    have e : tokE (cs z) i = qEnd (cs z) (i + 1) := by
      unfold tokE tEnd
      rw [if_neg h1, if_pos (one_q.mp h2)]
    have := hQ _ ex
    rw [e, ← find_q z (i + 1) (by omega)] at this
    rw [qu1]
    exact this
  · have h1 : ¬ _ := fun q => h1 (decide_eq_true q)
    have e : tokE (cs z) i = wEnd (cs z) i := by
      unfold tokE tEnd
      rw [if_neg h1, if_neg (fun q => h2 (one_q.mpr q))]
    rw [e] at hQ
    refine ⟨fun m σ H' => ∃ j : Nat, σ = [some (.str z), some (.int i), some (.int j)] ∧ j ≤ (cs z).length ∧ wEnd (cs z) j = wEnd (cs z) i ∧ Ex H H' ∧ m = (cs z).length - j, ⟨_, i, rfl, by omega, rfl, ex, rfl⟩, ?_⟩
    rintro m σ H1 ⟨j, rfl, h4, h5, ex1, rfl⟩
    walk_at "rd"
    refine ⟨hzl, ite2 (fun hj => ?_) (fun hj => ?_)⟩
    · have hj' : j < (cs z).length := by omega
      refine ⟨hzl, _, at_get hj', by decide, fun p hp => ⟨_, .inr (SqT.of upd_same), rfl, rfl, ?_⟩⟩
      rw [in4]
      have ex2 := ex1.trans (Ex.new (o := HO.tup [V.str (Str.ofString " "), V.str (Str.ofString "("), V.str (Str.ofString ")"), V.str (Str.ofString "'")]) hp)
      refine ite2 (fun h6 => ?_) (fun h6 => ?_)
      · have h6 := of_decide_eq_false h6
        refine ⟨fun σ' H' => σ' = [some (.str z), some (.int i), some (.int ((j + 1 : Nat) : Int))] ∧ Ex H H', fun σ' H' h => ⟨_, ?_, j + 1, h.1, hj', ?_, h.2, rfl⟩, rfl, ex2⟩
        · omega
        · rw [← h5]
          exact (wEnd_go hj' h6).symm
      · have h6 : _ := Decidable.byContradiction fun q => h6 (decide_eq_false q)
        have e2 : wEnd (cs z) j = j := wEnd_stop (.inr h6)
        rw [← h5, e2] at hQ
        exact hQ _ ex2
    · have e2 : wEnd (cs z) j = j := wEnd_stop (.inl (by omega))
      rw [← h5, e2] at hQ
      exact hQ _ ex1
theorem ok_may_follow (T : Txt P K mg) : Fo false P w K mg base CX0 1 d_may_follow ["token", "before"] spMay := by
  obtain ⟨fd, F⟩ := T.dfn 1 (d := d_may_follow)
  refine ⟨fd, Fq.mk' F sc_may_follow (fun vs H Q E h => ?_) (fun cdv A outer s H vs Q E hg hr h => ?_), F⟩
  · obtain ⟨z, i, rfl, _⟩ := h
    rfl
  obtain ⟨t, q, rfl, hQ⟩ := h
  refine ⟨_, (PSs.nox (pss_cons (ps_if (pt_cmpR op_eq (pv 0) (pe_gs rfl (T.str 9)) (nomark _)) (pss_one (ps_ret (pe_cmpR op_in_seq (pv 1) (pe_tup (pa_cons (pe_gs rfl (T.str 11)) (pa_cons (pe_gs rfl (T.str 12)) (pa_cons (pe_gs rfl (T.str 14)) pa_nil)))) (by rfl)))) pss_nil)
      (pss_cons (ps_if (pt_cmpR op_eq (pv 0) (pe_gs rfl (T.str 10)) (nomark _)) (pss_one (ps_ret (pe_cmpR op_in_seq (pv 1) (pe_tup (pa_cons (pe_gs rfl (T.str 12)) (pa_cons (pe_gs rfl (T.str 13)) pa_nil))) (by rfl)))) pss_nil)
      (pss_cons (ps_if (pt_cmpR op_eq (pv 0) (pe_gs rfl (T.str 7)) (nomark _)) (pss_one (ps_ret (pe_cmpR op_eq (pv 1) (pe_gs rfl (T.str 13)) (nomark _)))) pss_nil)
      (pss_one (ps_ret (pe_cmpR op_in_seq (pv 1) (pe_tup (pa_cons (pe_gs rfl (T.str 12)) (pa_cons (pe_gs rfl (T.str 14)) pa_nil))) (by rfl)))))))), ?_⟩
  walk_at "rd"
  refine ite2 (fun h1 => ⟨by decide, fun p hp => ⟨_, .inr (SqT.of upd_same), rfl, rfl, ?_⟩⟩) (fun h1 => ite2 (fun h2 => ⟨by decide, fun p hp => ⟨_, .inr (SqT.of upd_same), rfl, rfl, ?_⟩⟩) (fun h2 => ite2 (fun h3 => ?_) (fun h3 => ⟨by decide, fun p hp => ⟨_, .inr (SqT.of upd_same), rfl, rfl, ?_⟩⟩)))
  · have e := hQ _ (Ex.new (o := HO.tup [V.str (Str.ofString "nothing"), V.str (Str.ofString "an opening parenthesis"), V.str (Str.ofString "a space")]) hp)
    unfold mayF at e
    rw [if_pos h1] at e
    refine cast ?_ e
    congr 2
    cases q <;> decide +kernel
  · have e := hQ _ (Ex.new (o := HO.tup [V.str (Str.ofString "an opening parenthesis"), V.str (Str.ofString "a part")]) hp)
    unfold mayF at e
    rw [if_neg h1, if_pos h2] at e
    refine cast ?_ e
    congr 2
    cases q <;> decide +kernel
  · have e := hQ _ (Same.refl _)
    unfold mayF at e
    rw [if_neg h1, if_neg h2, if_pos h3] at e
    refine cast ?_ e
    congr 2
    cases q <;> decide +kernel
  · have e := hQ _ (Ex.new (o := HO.tup [V.str (Str.ofString "an opening parenthesis"), V.str (Str.ofString "a space")]) hp)
    unfold mayF at e
    rw [if_neg h1, if_neg h2, if_neg h3] at e
    refine cast ?_ e
    congr 2
    cases q <;> decide +kernel
theorem ok_behind (T : Txt P K mg) : Fo false P w K mg base CX0 1 d_behind ["token", "depth"] spBehind := by
  obtain ⟨fd, F⟩ := T.dfn 2 (d := d_behind)
  refine ⟨fd, Fq.mk' F sc_behind (fun vs H Q E h => ?_) (fun cdv A outer s H vs Q E hg hr h => ?_), F⟩
  · obtain ⟨z, i, rfl, _⟩ := h
    rfl
  obtain ⟨t, d, rfl, hQ⟩ := h
  refine ⟨_, (PSs.nox (pss_cons (ps_if (pt_cmpR op_eq (pv 0) (pe_gs rfl (T.str 9)) (nomark _)) (pss_one (ps_ret (pe_gs rfl (T.str 12)))) pss_nil)
      (pss_cons (ps_if (pt_cmpR op_eq (pv 0) (pe_gs rfl (T.str 7)) (nomark _)) (pss_one (ps_ret (pe_gs rfl (T.str 14)))) pss_nil)
      (pss_one (ps_ret (pe_ifExp (pt_cmpR op_eq (pv 1) pe_int (nomark _)) (pe_gs rfl (T.str 15)) (pe_gs rfl (T.str 13)))))))), ?_⟩
  walk_at "rd"
  have e := hQ H (Same.refl _)
  unfold behF at e
  refine ite2 (fun h1 => ?_) (fun h1 => ite2 (fun h2 => ?_) (fun h2 => ite2 (fun h3 => ?_) (fun h3 => ?_)))
  · rw [if_pos h1] at e; exact e
  · rw [if_neg h1, if_pos h2] at e; exact e
  · rw [if_neg h1, if_neg h2, if_pos h3] at e; exact e
  · rw [if_neg h1, if_neg h2, if_neg h3] at e; exact e
theorem nco : ¬ (Str.ofString ")" = Str.ofString "(") := by decide +kernel
theorem ncs : ¬ (Str.ofString ")" = Str.ofString " ") := by decide +kernel
theorem nso : ¬ (Str.ofString " " = Str.ofString "(") := by decide +kernel
theorem nsc : ¬ (Str.ofString " " = Str.ofString ")") := by decide +kernel
theorem noc : ¬ (Str.ofString "(" = Str.ofString ")") := by decide +kernel
theorem nos : ¬ (Str.ofString "(" = Str.ofString " ") := by decide +kernel
/-- between two turns -/
def LI (z : Str) (H0 : Hp) (D : Addr) (m : Mc) (σ : L2.St) (H' : Hp) : Prop := ∃ (e t : Option V) (start : Nat),
  σ = [some (.str z), some (.ref D), some (.str (stP m.st)), some (.int m.dep), some (.int start), some (.int m.pos), e, t] ∧ start ≤ (cs z).length ∧ (2 ≤ m.dep → start = m.beg) ∧ Way (cs z) m ∧ Ex H0 H' ∧ H' D = some (.lst (m.fnd.map toV))
theorem next_of {z t : Str} {H H4 : Hp} {D : Addr} {m m' : Mc} {d : Int} {s' e' : Nat} (hw : Way (cs z) m') (hl : m.pos < m'.pos)
    (ex : Ex H H4) (hD : H4 D = some (.lst (m'.fnd.map toV))) (hb : behF t d = m'.st) (hd : d = m'.dep) (hs : s' ≤ (cs z).length) (hg : 2 ≤ m'.dep → s' = m'.beg) (he : e' = m'.pos) : spBehind [V.str t, V.int d] H4 (fun x H1 => ∃ m', LI z H D m' [some (V.str z), some (V.ref D), some x, some (V.int d), some (V.int s'), some (V.int e'), some (V.int e'), some (V.str t)] H1 ∧ m.pos < m'.pos) E0 := by
  subst hd he
  refine ⟨_, _, rfl, fun H5 e5 => ⟨m', ⟨some (.int m'.pos), some (.str t), s', ?_, hs, hg, hw, ex.trans e5, e5 _ _ hD⟩, hl⟩⟩
  rw [hb]
theorem ok_parts_or_none (T : Txt P K mg) : Fo false P w K mg base CX0 2 d_parts_or_none ["text"] spParts := by
  obtain ⟨fd, F⟩ := T.dfn 3 (d := d_parts_or_none)
  refine ⟨fd, Fq.mk' F sc_parts_or_none (fun vs H Q E h => ?_) (fun cdv A outer s H vs Q E hg hr h => ?_), F⟩
  · obtain ⟨z, rfl, _⟩ := h
    rfl
  obtain ⟨z, rfl, hz, hN, hS⟩ := h
  refine ⟨_, (PSs.nox (pss_cons (ps_asg (pe_tup (pa_cons (pe_lst pa_nil) (pa_cons (pe_gs rfl (T.str 11)) (pa_cons pe_int (pa_cons pe_int (pa_cons pe_int pa_nil)))))) (pg_tup (n := 5) rfl (pgs_cons (pg_name (i := 1) sc_parts_or_none.nd rfl (Or.inl rfl)) (pgs_cons (pg_name (i := 2) sc_parts_or_none.nd rfl (Or.inl rfl)) (pgs_cons (pg_name (i := 3) sc_parts_or_none.nd rfl (Or.inl rfl)) (pgs_cons (pg_name (i := 4) sc_parts_or_none.nd rfl (Or.inl rfl)) (pgs_cons (pg_name (i := 5) sc_parts_or_none.nd rfl (Or.inl rfl)) pgs_nil)))))))
      (pss_cons (ps_while PassesOwn.never (pt_cmpR op_lt (pv 5) (pe_callB call_len_str rfl (T.free 39) (by decide +kernel) (pa_cons (pv 0) pa_nil)) (nomark _)) (pss_cons (ps_set (i := 6) sc_parts_or_none.nd rfl (Or.inl rfl) (pe_o (ok_token_end T) (T.glo 16) (b_token_end) gd_false (hr.mono (by omega)) rfl pass0 (pa_cons (pv 0) (pa_cons (pv 5) pa_nil))))
      (pss_cons (ps_set (i := 7) sc_parts_or_none.nd rfl (Or.inl rfl) (pe_slice sl_str (pv 0) (po_some (pv 5)) (po_some (pv 6))))
      (pss_cons (ps_if (PW.pt (pw_or (pt_cmpR op_eq (pv 6) pe_int (nomark _)) (pw_or1 (pt_not (pt_val (pe_o (ok_may_follow T) (T.glo 17) (b_may_follow) gd_false (hr.mono (by omega)) rfl pass0 (pa_cons (pv 7) (pa_cons (pv 2) pa_nil)))))))) (pss_one (ps_ret pe_non)) pss_nil)
      (pss_cons (ps_if (pt_cmpR op_eq (pv 7) (pe_gs rfl (T.str 9)) (nomark _)) (pss_cons (ps_aug (i := 3) sc_parts_or_none.nd rfl (Or.inl rfl) pe_int ip_add)
      (pss_one (ps_set (i := 4) sc_parts_or_none.nd rfl (Or.inl rfl) (pe_ifExp (pt_cmpR op_eq (pv 3) pe_int (nomark _)) (pv 5) (pv 4))))) (pss_one (ps_if (pt_cmpR op_eq (pv 7) (pe_gs rfl (T.str 10)) (nomark _)) (pss_one (ps_aug (i := 3) sc_parts_or_none.nd rfl (Or.inl rfl) pe_int ip_sub)) pss_nil)))
      (pss_cons (ps_if (pt_cmpR op_gt (pv 3) (pe_gi rfl (T.int 6)) (nomark _)) (pss_one (ps_ret pe_non)) pss_nil)
      (pss_cons (ps_if (PW.pt (pw_and (pt_cmpR op_eq (pv 3) pe_int (nomark _)) (pw_and1 (pt_cmpR op_eq (pv 7) (pe_gs rfl (T.str 10)) (nomark _))))) (pss_one (ps_expr (pe_bm PySem.F.plainAttrs_list PySem.F.slot_list_append PySem.F.type_list_append mt_append (pv 1) (pa_cons (pe_slice sl_str (pv 0) (po_some (pv 4)) (po_some (pv 6))) pa_nil)))) (pss_one (ps_if (PW.pt (pw_and (pt_cmpR op_eq (pv 3) pe_int (nomark _)) (pw_and1 (pt_cmpR op_notIn_seq (pv 7) (pe_tup (pa_cons (pe_gs rfl (T.str 9)) (pa_cons (pe_gs rfl (T.str 7)) pa_nil))) (by rfl))))) (pss_one (ps_expr (pe_bm PySem.F.plainAttrs_list PySem.F.slot_list_append PySem.F.type_list_append mt_append (pv 1) (pa_cons (pv 7) pa_nil)))) pss_nil)))
      (pss_cons (ps_set (i := 2) sc_parts_or_none.nd rfl (Or.inl rfl) (pe_o (ok_behind T) (T.glo 18) (b_behind) gd_false (hr.mono (by omega)) rfl pass0 (pa_cons (pv 7) (pa_cons (pv 3) pa_nil))))
      (pss_one (ps_set (i := 5) sc_parts_or_none.nd rfl (Or.inl rfl) (pv 6)))))))))))
      (pss_one (ps_ret (pe_ifExp (pt_cmpR op_eq (pv 2) (pe_gs rfl (T.str 15)) (nomark _)) (pv 1) pe_non)))))), ?_⟩
  walk_at "rd"
  have lz := cs_len z
  have hzl : z.length ≤ sizeLine := Nat.le_trans (show z.length ≤ 1000000 by omega) (by decide)
  refine ⟨by decide, fun D hD => ⟨by decide, fun p hp => ⟨_, SqT.of upd_same, rfl, _, _, rfl, _, _, rfl, _, _, rfl, _, _, rfl, _, _, rfl, rfl, ?_⟩⟩⟩
  have nD : D ≠ p := fun e => by rw [e, upd_same] at hp; cases hp
  refine ⟨fun k σ H' => ∃ m, LI z H D m σ H' ∧ k = (cs z).length - m.pos, ⟨_, init, ⟨_, _, 0, rfl, Nat.zero_le _, fun _ => rfl, way_init _, (Ex.new hD).trans (Ex.new hp), ?_⟩, rfl⟩, ?_⟩
  · rw [upd_ne nD, upd_same]
    rfl
  rintro k σ H1 ⟨m, ⟨oe, ot, start, rfl, hst, hbg, way, ex1, hD1⟩, rfl⟩
  walk_at "rd"
  refine ⟨hzl, ite2 (fun hlt => ?_) (fun hlt => ?_)⟩
  · have hlt : m.pos < (cs z).length := by omega
    refine ⟨fun σ' H' => ∃ m', LI z H D m' σ' H' ∧ m.pos < m'.pos, fun σ' H' ⟨m', h1, h2⟩ => ⟨_, ?_, m', h1, rfl⟩, z, m.pos, rfl, hlt, hz, fun H2 e2 => ?_⟩
    · omega
    have wst := way_step way hlt
    have ok := way.1
    unfold step at wst
    have fin : ∀ {H3 : Hp}, Ex H H3 → H3 D = some (.lst (m.fnd.map toV)) → tyV K "list" (V.ref D) H3 := fun _ h => Or.inl ⟨rfl, _, SqL.of h⟩
    have hfl : m.fnd.length < sizeLine := Nat.lt_of_le_of_lt (show m.fnd.length ≤ 1000000 by have := ok.hf; omega) (by decide)
    by_cases c41 : (cs z).getD m.pos 0 = 41
    · have et : tokE (cs z) m.pos = m.pos + 1 := if_pos (.inr (.inr c41))
      have ec : cutS z (some (m.pos : Int)) (some ((m.pos + 1 : Nat) : Int)) = Str.ofString ")" := tok1 hlt c41 cl1
      have em : mayF (Str.ofString ")") m.st = decide (m.st = .s1 ∨ m.st = .s2) := by unfold mayF; rw [if_neg nco, if_pos rfl]
      refine ⟨_, rfl, hzl, rfl, ?_⟩
      rw [et, if_neg (by simp; omega)]
      refine ⟨_, m.st, rfl, fun H3 e3 => ⟨_, rfl, ?_⟩⟩
      have ex3 := (ex1.trans e2).trans e3
      have hD3 := e3 _ _ (e2 _ _ hD1)
      simp only [ec, em, eq_false nco, eq_false ncs, if_true, if_false]
      rw [if_pos c41] at wst
      by_cases hs : m.st = .s1 ∨ m.st = .s2
      · rw [if_pos hs] at wst
        rcases wst with ⟨w1, _⟩ | ⟨m', w1, w2, w3⟩
        · cases w1
        cases w1
        have hd1 := ok.h1 (by rcases hs with q | q <;> simp [q])
        have hd2 := ok.hd
        rw [decide_eq_true hs, if_neg (by decide), if_neg (by omega)]
        have e1 : behF (Str.ofString ")") ((m.dep : Int) - 1) = if m.dep - 1 = 0 then .s4 else .s2 := by
          unfold behF
          rw [if_neg nco, if_neg ncs]
          by_cases q : m.dep - 1 = 0
          · rw [if_pos q, if_pos (by omega)]
          · rw [if_neg q, if_neg (by omega)]
        by_cases q1 : m.dep - 1 = 1
        · rw [if_pos (show (m.dep : Int) - 1 = 1 by omega)]
          refine ⟨fin ex3 hD3, _, rfl, hzl, _, hD3, by rw [List.length_map]; exact hfl, next_of w2 w3 (Ex.keep ex3 hD) ?_ e1 (by simp only; omega) hst (fun q => hbg (by simp only at q; omega)) rfl⟩
          rw [upd_same, if_pos q1, hbg (by omega), List.map_append]
          have e1 : cutS z (some (m.beg : Int)) (some ((m.pos + 1 : Nat) : Int)) = ⟨(cut (cs z) m.beg (m.pos + 1)).toArray⟩ := cs_inj (by rw [cutS_cut z _ _ (by rw [← hbg (by omega)]; exact hst) (by omega)])
          rw [e1]
          rfl
        · rw [if_neg (show ¬ (m.dep : Int) - 1 = 1 by omega), if_neg (show ¬ (m.dep : Int) - 1 = 1 by omega)]
          refine next_of w2 w3 ex3 ?_ e1 (by simp only; omega) hst (fun q => hbg (by simp only at q; omega)) rfl
          rw [hD3, if_neg q1]
      · rw [if_neg hs] at wst
        rcases wst with ⟨_, w1⟩ | ⟨m', w1, _⟩
        · rw [decide_eq_false hs, if_pos rfl]
          exact hN w1 _ ex3
        · cases w1
    rw [if_neg c41] at wst
    by_cases c32 : (cs z).getD m.pos 0 = 32
    · have et : tokE (cs z) m.pos = m.pos + 1 := if_pos (.inl c32)
      have ec : cutS z (some (m.pos : Int)) (some ((m.pos + 1 : Nat) : Int)) = Str.ofString " " := tok1 hlt c32 sp1
      have em : mayF (Str.ofString " ") m.st = decide (m.st = .s2) := by unfold mayF; rw [if_neg nso, if_neg nsc, if_pos rfl]
      refine ⟨_, rfl, hzl, rfl, ?_⟩
      rw [et, if_neg (by simp; omega)]
      refine ⟨_, m.st, rfl, fun H3 e3 => ⟨_, rfl, ?_⟩⟩
      have ex3 := (ex1.trans e2).trans e3
      have hD3 := e3 _ _ (e2 _ _ hD1)
      simp only [ec, em, eq_false nso, eq_false nsc, if_true, if_false]
      rw [if_pos c32] at wst
      by_cases hs : m.st = .s2
      · rw [if_pos hs] at wst
        rcases wst with ⟨w1, _⟩ | ⟨m', w1, w2, w3⟩
        · cases w1
        cases w1
        have hd2 := ok.hd
        rw [decide_eq_true hs, if_neg (by decide), if_neg (by omega)]
        have e1 : behF (Str.ofString " ") (m.dep : Int) = .s3 := by
          unfold behF
          rw [if_neg nso, if_pos rfl]
        by_cases q1 : (m.dep : Int) = 1
        · simp only [q1, if_true]
          refine ⟨by decide, fun p hp => ⟨_, .inr (SqT.of upd_same), rfl, rfl, ?_⟩⟩
          rw [if_neg (by decide +kernel)]
          refine next_of w2 w3 (ex3.trans (Ex.new hp)) ?_ (by rw [← q1]; exact e1) q1.symm hst hbg rfl
          rw [upd_ne (ne_of_none hD3 hp)]
          exact hD3
        · simp only [q1, if_false]
          exact next_of w2 w3 ex3 hD3 e1 rfl hst hbg rfl
      · rw [if_neg hs] at wst
        rcases wst with ⟨_, w1⟩ | ⟨m', w1, _⟩
        · rw [decide_eq_false hs, if_pos rfl]
          exact hN w1 _ ex3
        · cases w1
    rw [if_neg c32] at wst
    by_cases c40 : (cs z).getD m.pos 0 = 40
    · have et : tokE (cs z) m.pos = m.pos + 1 := if_pos (.inr (.inl c40))
      have ec : cutS z (some (m.pos : Int)) (some ((m.pos + 1 : Nat) : Int)) = Str.ofString "(" := tok1 hlt c40 op1
      have em : mayF (Str.ofString "(") m.st = decide (m.st = .s0 ∨ m.st = .s1 ∨ m.st = .s3) := by unfold mayF; rw [if_pos rfl]
      refine ⟨_, rfl, hzl, rfl, ?_⟩
      rw [et, if_neg (by simp; omega)]
      refine ⟨_, m.st, rfl, fun H3 e3 => ⟨_, rfl, ?_⟩⟩
      have ex3 := (ex1.trans e2).trans e3
      have hD3 := e3 _ _ (e2 _ _ hD1)
      simp only [ec, em, eq_false noc, eq_false nos, if_true, if_false]
      rw [if_pos c40] at wst
      have e1 : ∀ d : Int, behF (Str.ofString "(") d = .s1 := fun d => by
        unfold behF
        rw [if_pos rfl]
      by_cases hs : m.st = .s0 ∨ m.st = .s1 ∨ m.st = .s3
      · rw [if_pos hs] at wst
        rw [decide_eq_true hs, if_neg (by decide)]
        by_cases hd : m.dep + 1 ≤ 13
        · rw [if_pos hd] at wst
          rcases wst with ⟨w1, _⟩ | ⟨m', w1, w2, w3⟩
          · cases w1
          cases w1
          by_cases q2 : (m.dep : Int) + 1 = 2
          · rw [if_pos q2, if_neg (by omega), if_neg (by omega), if_neg (by omega)]
            exact next_of w2 w3 ex3 hD3 (e1 _) (by simp) (by omega) (fun _ => by simp only; rw [if_pos (by omega)]) rfl
          · rw [if_neg q2, if_neg (by omega)]
            by_cases q1 : (m.dep : Int) + 1 = 1
            · simp only [q1, if_true]
              refine ⟨by decide, fun p hp => ⟨_, .inr (SqT.of upd_same), rfl, rfl, ?_⟩⟩
              rw [if_neg (by decide +kernel)]
              refine next_of w2 w3 (ex3.trans (Ex.new hp)) ?_ (e1 _) (by simp only; omega) hst (fun q => by simp only at q; omega) rfl
              rw [upd_ne (ne_of_none hD3 hp)]
              exact hD3
            · simp only [q1, if_false]
              exact next_of w2 w3 ex3 hD3 (e1 _) (by simp) hst (fun q => by simp only; rw [if_neg (by omega)]; exact hbg (by simp only at q; omega)) rfl
        · rw [if_neg hd] at wst
          rcases wst with ⟨_, w1⟩ | ⟨m', w1, _⟩
          · rw [if_neg (by omega), if_pos (by omega)]
            exact hN w1 _ ex3
          · cases w1
      · rw [if_neg hs] at wst
        rcases wst with ⟨_, w1⟩ | ⟨m', w1, _⟩
        · rw [decide_eq_false hs, if_pos rfl]
          exact hN w1 _ ex3
        · cases w1
    rw [if_neg c40] at wst
    have et : tokE (cs z) m.pos = tEnd (cs z) m.pos := if_neg (by rintro (q | q | q) <;> contradiction)
    have hle := tEnd_le (cs z) m.pos (by omega)
    refine ⟨_, rfl, hzl, rfl, ?_⟩
    rw [et]
    have exn := ex1.trans e2
    have hge : tEnd (cs z) m.pos = 0 ∨ m.pos < tEnd (cs z) m.pos := by
      unfold tEnd
      split
      · rcases qEnd_gt (cs z) (m.pos + 1) with q | q
        · exact .inl q
        · exact .inr (by omega)
      · rename_i q39
        rw [wEnd_go hlt (by rintro (q | q | q | q) <;> contradiction)]
        unfold wEnd
        exact .inr (by omega)
    rcases hge with h0 | hgt
    · rw [h0, if_pos (show V.int ((0 : Nat) : Int) = V.int 0 from rfl)]
      rw [if_neg (by rw [h0]; omega)] at wst
      rcases wst with ⟨_, w1⟩ | ⟨m', w1, _⟩
      · exact hN w1 _ exn
      · cases w1
    rw [if_neg (by simp; omega)]
    have n1 := tok2 hgt hle c40 op1
    have n2 := tok2 hgt hle c41 cl1
    have n3 := tok2 hgt hle c32 sp1
    have ecut : cutS z (some (m.pos : Int)) (some (tEnd (cs z) m.pos : Int)) = ⟨(cut (cs z) m.pos (tEnd (cs z) m.pos)).toArray⟩ := cs_inj (by rw [cutS_cut z _ _ (by omega) hle])
    generalize cutS z (some (m.pos : Int)) (some (tEnd (cs z) m.pos : Int)) = t at n1 n2 n3 ecut ⊢
    have em : mayF t m.st = decide (m.st = .s1 ∨ m.st = .s3) := by unfold mayF; rw [if_neg n1, if_neg n2, if_neg n3]
    refine ⟨_, m.st, rfl, fun H3 e3 => ⟨_, rfl, ?_⟩⟩
    have ex3 := (ex1.trans e2).trans e3
    have hD3 := e3 _ _ (e2 _ _ hD1)
    simp only [em, eq_false n1, eq_false n2, if_true, if_false]
    by_cases hs : m.st = .s1 ∨ m.st = .s3
    · rw [if_pos ⟨hs, hgt⟩] at wst
      rcases wst with ⟨w1, _⟩ | ⟨m', w1, w2, w3⟩
      · cases w1
      cases w1
      have hd1 := ok.h1 (by rcases hs with q | q <;> simp [q])
      have hd2 := ok.hd
      rw [decide_eq_true hs, if_neg (by decide), if_neg (by omega)]
      have e1 : behF t (m.dep : Int) = .s2 := by
        unfold behF
        rw [if_neg n1, if_neg n3, if_neg (by omega)]
      by_cases q1 : (m.dep : Int) = 1
      · simp only [q1, if_true]
        refine ⟨by decide, fun p hp => ⟨_, .inr (SqT.of upd_same), rfl, rfl, ?_⟩⟩
        have hi : inV (.str t) [V.str (Str.ofString "("), V.str (Str.ofString " ")] = false := by
          have b1 : (Str.ofString "(" == t) = false := beq_eq_false_iff_ne.mpr fun q => n1 q.symm
          have b2 : (Str.ofString " " == t) = false := beq_eq_false_iff_ne.mpr fun q => n3 q.symm
          show ((Str.ofString "(" == t) || ((Str.ofString " " == t) || false)) = false
          rw [b1, b2]
          rfl
        rw [if_pos hi]
        have hD4 : upd H3 p (HO.tup [V.str (Str.ofString "("), V.str (Str.ofString " ")]) D = some (.lst (m.fnd.map toV)) := by
          rw [upd_ne (ne_of_none hD3 hp)]
          exact hD3
        have ex4 : Ex H (upd H3 p (HO.tup [V.str (Str.ofString "("), V.str (Str.ofString " ")])) := ex3.trans (Ex.new hp)
        refine ⟨fin ex4 hD4, _, hD4, by rw [List.length_map]; exact hfl, next_of w2 w3 (Ex.keep ex4 hD) ?_ (by rw [← q1]; exact e1) q1.symm hst (fun q => by simp only at q; omega) rfl⟩
        rw [upd_same, if_pos (by omega), List.map_append, ecut]
        rfl
      · simp only [q1, if_false]
        refine next_of w2 w3 ex3 ?_ e1 rfl hst (fun q => by simp only; rw [if_neg (by omega)]; exact hbg q) rfl
        rw [hD3, if_neg (by omega)]
    · rw [if_neg (fun q => hs q.1)] at wst
      rcases wst with ⟨_, w1⟩ | ⟨m', w1, _⟩
      · rw [decide_eq_false hs, if_pos rfl]
        exact hN w1 _ ex3
      · cases w1
  · have re := way_end way (by omega)
    refine ite2 (fun h => ?_) (fun h => ?_)
    · have hs : m.st = .s4 := by
        revert h
        cases m.st <;> decide +kernel
      rw [if_pos hs] at re
      exact hS _ re D H1 hD ex1 hD1
    · rw [if_neg (fun q => h (by rw [q]; rfl))] at re
      exact hN re _ ex1
end
end K21

set_option Elab.async false
set_option linter.all false
set_option maxRecDepth 100000
set_option maxHeartbeats 4000000
namespace K21
open PySem PySem.Spec PyProof.Rows L2 Ab
local macro_rules | `(tactic| walk_at "rd") => `(tactic| simp only [start_eq, List.map_cons, List.map_nil, List.length_cons, List.length_nil, List.replicate_succ, List.replicate_zero, List.cons_append, List.nil_append, Nat.reduceSub, Nat.reduceAdd, Nat.zero_add,
  tSeq, tAsg, tIf, tTest, tOp, tVar, tCB, tCons, tNil, tC, gName, tRet, tLst, tTup, tIfS, tPar3, tDrop, tB, tAnd, tOr, tNot, tAndV, tOrV, tNotV, tUn, tNext, tNever, gTup, gSub, gCons, gNil, rSetL, tPar, rCat, rRep, rAppend, rAll, rAny, tM1, tBM, tBM0, tDisp, tPairs, rIn, tChain, tPart, tFld, tFmt, tJs, rRepS, tSl, tNoPart, rSlS, tAug, ipI, tDGet, rSetD, tOX, tMkX, rSimE, rSimN, tFor_eq, tLc_eq, iRng1, iRng2, iList, iTup, iStr, rI0, rI, rU, rIxL, rIxT, rIxS, tO, gPos, StX.tMakeR, tDNewK, sFld, ClX.tCVal, rSortedS, rEq, rNe, scal_ii, scal_ss, scal_bb, scal_nn, scal_is, scal_si, cx_K, cx_Kn,
  V.int.injEq, V.ref.injEq, V.str.injEq, V.bl.injEq, List.cons.injEq, Bool.not_eq_true', decide_eq_true_eq, decide_eq_false_iff_not, if_true, if_false, Bool.not_true, Bool.not_false, Bool.false_eq_true, not_true_eq_false, not_false_eq_true, and_assoc, and_true, true_and, exists_eq_left', exists_eq_left, exists_and_left, reduceCtorEq, false_and, and_false, exists_false, or_false, false_or,
  List.getElem?_cons_zero, List.getElem?_cons_succ, Option.some.injEq, List.set_cons_zero, List.set_cons_succ])
local macro_rules | `(tactic| walk_at "rk") => `(tactic| simp only [start_eq, List.map_cons, List.map_nil, List.length_cons, List.length_nil, List.replicate_succ, List.replicate_zero, List.cons_append, List.nil_append, Nat.reduceSub, Nat.reduceAdd, Nat.zero_add,
  tSeq, tAsg, tTest, tOp, tVar, tCB, tCons, tNil, tC, gName, tRet, tLst, tTup, tIfS, tPar3, tDrop, tB, tAnd, tOr, tNot, tNotV, tUn, tNext, tNever, gTup, gSub, gCons, gNil, rSetL, tPar, rCat, rRep, rAppend, rAll, rAny, tM1, tBM, tBM0, tDisp, tPairs, rIn, tChain, tPart, tFld, tFmt, tJs, rRepS, tSl, tNoPart, rSlS, tAug, ipI, tDGet, rSetD, tOX, tMkX, rSimE, rSimN, tFor_eq, tLc_eq, iRng1, iRng2, iList, iTup, iStr, rI0, rI, rU, rIxL, rIxT, rIxS, tO, gPos, StX.tMakeR, tDNewK, sFld, ClX.tCVal, rSortedS, rEq, rNe, scal_ii, scal_ss, scal_bb, scal_nn, scal_is, scal_si, cx_K, cx_Kn,
  V.int.injEq, V.ref.injEq, V.str.injEq, V.bl.injEq, List.cons.injEq, Bool.not_eq_true', decide_eq_true_eq, decide_eq_false_iff_not, if_true, if_false, Bool.not_true, Bool.not_false, Bool.false_eq_true, not_true_eq_false, not_false_eq_true, and_assoc, and_true, true_and, exists_eq_left', exists_eq_left, exists_and_left, reduceCtorEq, false_and, and_false, exists_false, or_false, false_or,
  List.getElem?_cons_zero, List.getElem?_cons_succ, Option.some.injEq, List.set_cons_zero, List.set_cons_succ])
def spPartsOf (K : PySem.W.Frag) : Sp := fun vs H Q E => ∃ v : V, vs = [v] ∧ ((∃ z : Str, v = .str z ∧ (cs z).length ≤ 200000 ∧ (res (cs z) = none → ∀ H', Ex H H' → Lets E (He.ga K "InvalidText") "InvalidText" ["problem"] [.str "form"] H') ∧
  ∀ l, res (cs z) = some l → ∀ D H', H D = none → Ex H H' → H' D = some (.lst (l.map toV)) → Q (.ref D) H') ∨ (isStr v = false ∧ Ty K H v ∧ ∀ H', Ex H H' → Lets E (He.ga K "InvalidText") "InvalidText" ["problem"] [.str "string"] H'))
section
variable {P : Program} {w : World} {K : PySem.W.Frag} {mg : Str → Option Value} {base : Heap}
theorem ok_parts_of (T : Txt P K mg) : Fo false P w K mg base (L2.CX P w) 3 d_parts_of ["text"] (spPartsOf K) := by
  obtain ⟨fd, F⟩ := T.dfn 4 (d := d_parts_of)
  refine ⟨fd, Fq.mk' F sc_parts_of (fun vs H Q E h => ?_) (fun cdv A outer s H vs Q E hg hr h => ?_), F⟩
  · obtain ⟨z, rfl, _⟩ := h
    rfl
  obtain ⟨v, rfl, h⟩ := h
  refine ⟨_, (pss_cons (ps_if (pt_not (pt_val (pe_callB call_isi rfl (T.free 40) (by decide +kernel) (pa_cons (pv 0) (pa_cons (pe_bltn (v := .ty "str") rfl (T.free 41) (by decide +kernel) rfl) pa_nil))))) (pss_one (ps_raise rfl (takes_of rfl rfl rfl rfl) (Ab.pmk_x (m_InvalidText T) (by decide) (hr.mono (by omega)) rfl (pa_cons pe_str pa_nil)))) pss_nil)
      (pss_cons (ps_set (i := 1) sc_parts_of.nd rfl (Or.inl rfl) (pe_o (ok_parts_or_none T) (T.glo 19) (b_parts_or_none) gd_false (hr.mono (by omega)) rfl pass0 (pa_cons (pv 0) pa_nil)))
      (pss_cons (ps_if (pt_cmpR op_isN (pv 1) pe_non (nomark _)) (pss_one (ps_raise rfl (takes_of rfl rfl rfl rfl) (Ab.pmk_x (m_InvalidText T) (by decide) (hr.mono (by omega)) rfl (pa_cons pe_str pa_nil)))) pss_nil)
      (pss_one (ps_ret (pv 1)))))), ?_⟩
  walk_at "rd"
  rcases h with ⟨z, rfl, hz, hN, hS⟩ | ⟨hs, hT, hN⟩
  · refine is_str (show Ty K H (.str z) from Nat.le_trans hz (by decide)) ⟨_, rfl, ?_⟩
    rw [if_neg (fun q => by cases q)]
    exact ⟨z, rfl, hz, fun hr H' e => (if_pos rfl).mpr (hN hr H' e), fun l hl D H' hD e hd => (if_neg nofun).mpr (hS l hl D H' hD e hd)⟩
  · refine is_str hT ⟨_, rfl, ?_⟩
    rw [hs, if_pos rfl]
    exact hN H (Same.refl _)
def spTold (K : PySem.W.Frag) : Sp := fun vs H Q _ => ∃ v : V, vs = [v] ∧ ((∃ z : Str, v = .str z ∧ (cs z).length ≤ 200000 ∧ (res (cs z) = none → ∀ H', Ex H H' → Q (.str "form") H') ∧
  ∀ l, res (cs z) = some l → ∀ D H', H D = none → Ex H H' → H' D = some (.lst (l.map toV)) → Q (.ref D) H') ∨ (isStr v = false ∧ Ty K H v ∧ ∀ H', Ex H H' → Q (.str "string") H'))
theorem ok_law_told (T : Txt P K mg) : Fo false P w K mg base CX0 4 d_law_told ["_law_line"] (spTold K) := by
  obtain ⟨fd, F⟩ := T.dfn 18 (d := d_law_told)
  refine ⟨fd, Fq.mk' F sc_law_told (fun vs H Q E h => ?_) (fun cdv A outer s H vs Q E hg hr h => ?_), F⟩
  · obtain ⟨z, rfl, _⟩ := h
    rfl
  obtain ⟨v, rfl, h⟩ := h
  refine ⟨_, (PSs.nox (pss_cons (ps_try_as (i := 2) rfl rfl sc_law_told.nd rfl rfl ⟨rfl, by decide, Or.inl (T.glo 2)⟩ Ab.takes_no
      (fun W pn xe tk po => (pss_one (ps_set (i := 1) sc_law_told.nd rfl (Or.inl rfl) (pe_ok0X (ok_parts_of T) (T.glo 20) ((fun fd F => bw_kw F 0 ["text"] (fun _ ys => ys) (fun _ _ _ _ _ _ us ws l1 l2 => match us, ws, l1, l2 with | [], [_], _, _ => rfl) (fun _ _ _ r => r))) gd_false (hr.mono (by omega)) rfl tk (pk_cons (pv 0) pk_nil)))))
      (fun a oe cls d pn hz hf => (pss_cons (ps_set (i := 3) sc_law_told.nd rfl (Or.inl rfl) (pe_callB (Ab.call_isXT hz hf) rfl (T.free 40) (by decide +kernel) (pa_cons (pv 2) (pa_cons (pe_tup (pa_cons (pe_gr rfl (T.glo 5)) (pa_cons (pe_gr rfl (T.glo 3)) (pa_cons (pe_gr rfl (T.glo 1)) (pa_cons (pe_gr rfl (T.glo 4)) pa_nil))))) pa_nil))))
      (pss_cons (ps_set (i := 4) sc_law_told.nd rfl (Or.inl rfl) (pe_and (pe_callB (Ab.call_isX hz hf) rfl (T.free 40) (by decide +kernel) (pa_cons (pv 2) (pa_cons (pe_gr rfl (T.glo 0)) pa_nil))) (pe_and (pe_callB (Ab.call_isX hz hf) rfl (T.free 40) (by decide +kernel) (pa_cons (pv 2) (pa_cons (pe_bltn (v := .ty "ValueError") rfl (T.free 37) (by decide +kernel) rfl) pa_nil))) (pe_one (pe_not (pv 3))))))
      (pss_one (ps_set (i := 1) sc_law_told.nd rfl (Or.inl rfl) (pe_ifExp (pt_val (pv 4)) (pe_xf (x_InvalidText T).2 (He.noat_ok (T.fact 50)) hz hf (pv 2)) pe_str)))))))
      (pss_one (ps_ret (pv 1))))), ?_⟩
  walk_at "rd"
  generalize hW : wAs K _ _ _ _ _ = W
  have caught : ∀ (x : Str) (H2 : Hp), (∀ H', Ex H2 H' → Q (.str x) H') → Lets (fun cls d H' => W cls d [some v, none, none, none, none] H') (He.ga K "InvalidText") "InvalidText" ["problem"] [.str x] H2 := by
    intro x H2 hq d t H3 hd ht ex hx htp
    rw [← hW]
    refine ⟨true, He.exm_ok (T.fact 49), fun _ a ha => ?_, nofun⟩
    walk_at "rd"
    obtain ⟨_, m⟩ := He.ba T.c.more
    obtain ⟨m1, m⟩ := He.ba m
    obtain ⟨m2, m3⟩ := He.ba m
    refine ⟨by decide, fun p hp => ⟨_, d, _, p, _, _, false, rfl, rfl, Ex.new hp _ _ hx, (x_InvalidText T).1, rfl, upd_same, .cons (.own _) (.cons (.own _) (.cons (.own _) (.cons (.own _) .nil))), of_decide_eq_true m3,
      _, d, _, _, _, true, rfl, rfl, Ex.new hp _ _ hx, (x_InvalidText T).1, rfl, .own _, of_decide_eq_true m1, true, rfl, ?_⟩⟩
    rw [if_pos rfl]
    refine ⟨_, d, _, _, _, true, rfl, rfl, Ex.new hp _ _ hx, (x_InvalidText T).1, rfl, .ty _, of_decide_eq_true m2, true, rfl, ?_⟩
    rw [if_pos rfl]
    refine ⟨_, rfl, ?_⟩
    rw [if_pos rfl]
    exact ⟨_, rfl, rfl, rfl, d, _, .str x, rfl, Ex.new hp _ _ hx, rfl, hq _ (ex.trans (Ex.new hp))⟩
  rcases h with ⟨z, rfl, hz, hN, hS⟩ | ⟨hs, hT, hN⟩
  · exact ⟨_, rfl, .inl ⟨z, rfl, hz, fun hr H' e => caught _ _ fun H'' e' => hN hr H'' (e.trans e'), fun l hl D H' hD e hd => hS l hl D H' hD e hd⟩⟩
  · exact ⟨_, rfl, .inr ⟨hs, hT, fun H' e => caught _ _ fun H'' e' => hN H'' (e.trans e')⟩⟩
end
end K21

set_option Elab.async false
set_option linter.all false
set_option maxRecDepth 100000
set_option maxHeartbeats 4000000
namespace K21
open PySem PySem.Spec PyProof.Rows L2 Ab
local macro_rules | `(tactic| walk_at "rd") => `(tactic| simp only [start_eq, List.map_cons, List.map_nil, List.length_cons, List.length_nil, List.replicate_succ, List.replicate_zero, List.cons_append, List.nil_append, Nat.reduceSub, Nat.reduceAdd, Nat.zero_add,
  tSeq, tAsg, tIf, tTest, tOp, tVar, tCB, tCons, tNil, tC, gName, tRet, tLst, tTup, tIfS, tPar3, tDrop, tB, tAnd, tOr, tNot, tAndV, tOrV, tNotV, tUn, tNext, tNever, gTup, gSub, gCons, gNil, rSetL, tPar, rCat, rRep, rAppend, rAll, rAny, tM1, tBM, tBM0, tDisp, tPairs, rIn, tChain, tPart, tFld, tFmt, tJs, rRepS, tSl, tNoPart, rSlS, tAug, ipI, tDGet, rSetD, tOX, tMkX, rSimE, rSimN, tFor_eq, tLc_eq, iRng1, iRng2, iList, iTup, iStr, rI0, rI, rU, rIxL, rIxT, rIxS, tO, gPos, StX.tMakeR, tDNewK, sFld, ClX.tCVal, rSortedS, rEq, rNe, scal_ii, scal_ss, scal_bb, scal_nn, scal_is, scal_si, cx_K, cx_Kn,
  V.int.injEq, V.ref.injEq, V.str.injEq, V.bl.injEq, List.cons.injEq, Bool.not_eq_true', decide_eq_true_eq, decide_eq_false_iff_not, if_true, if_false, Bool.not_true, Bool.not_false, Bool.false_eq_true, not_true_eq_false, not_false_eq_true, and_assoc, and_true, true_and, exists_eq_left', exists_eq_left, exists_and_left, reduceCtorEq, false_and, and_false, exists_false, or_false, false_or,
  List.getElem?_cons_zero, List.getElem?_cons_succ, Option.some.injEq, List.set_cons_zero, List.set_cons_succ])
local macro_rules | `(tactic| walk_at "rk") => `(tactic| simp only [start_eq, List.map_cons, List.map_nil, List.length_cons, List.length_nil, List.replicate_succ, List.replicate_zero, List.cons_append, List.nil_append, Nat.reduceSub, Nat.reduceAdd, Nat.zero_add,
  tSeq, tAsg, tTest, tOp, tVar, tCB, tCons, tNil, tC, gName, tRet, tLst, tTup, tIfS, tPar3, tDrop, tB, tAnd, tOr, tNot, tNotV, tUn, tNext, tNever, gTup, gSub, gCons, gNil, rSetL, tPar, rCat, rRep, rAppend, rAll, rAny, tM1, tBM, tBM0, tDisp, tPairs, rIn, tChain, tPart, tFld, tFmt, tJs, rRepS, tSl, tNoPart, rSlS, tAug, ipI, tDGet, rSetD, tOX, tMkX, rSimE, rSimN, tFor_eq, tLc_eq, iRng1, iRng2, iList, iTup, iStr, rI0, rI, rU, rIxL, rIxT, rIxS, tO, gPos, StX.tMakeR, tDNewK, sFld, ClX.tCVal, rSortedS, rEq, rNe, scal_ii, scal_ss, scal_bb, scal_nn, scal_is, scal_si, cx_K, cx_Kn,
  V.int.injEq, V.ref.injEq, V.str.injEq, V.bl.injEq, List.cons.injEq, Bool.not_eq_true', decide_eq_true_eq, decide_eq_false_iff_not, if_true, if_false, Bool.not_true, Bool.not_false, Bool.false_eq_true, not_true_eq_false, not_false_eq_true, and_assoc, and_true, true_and, exists_eq_left', exists_eq_left, exists_and_left, reduceCtorEq, false_and, and_false, exists_false, or_false, false_or,
  List.getElem?_cons_zero, List.getElem?_cons_succ, Option.some.injEq, List.set_cons_zero, List.set_cons_succ])
def stL : Q5 → Str
  | .s0 => "start"
  | .s1 => "first"
  | .s2 => "behind"
  | .s3 => "part"
  | .s4 => "end"
/-- the law's state -/
def dk (at_ dep : Int) (rd : Str) (bg : Int) (L : Addr) : List (Key × V) := [(.inr "at", .int at_), (.inr "depth", .int dep), (.inr "ready", .str rd), (.inr "begin", .int bg), (.inr "found", .ref L)]
theorem sg4 {c : Nat} : c ∈ (Str.ofString " ()'").cps.toList ↔ (c = 32 ∨ c = 40 ∨ c = 41 ∨ c = 39) := by
  have e : (Str.ofString " ()'").cps.toList = [32, 40, 41, 39] := by decide +kernel
  rw [e]
  simp
/-- all but the state stays -/
def F2 (S L : Addr) (H H' : Hp) : Prop := ∀ b o, b ≠ S → b ≠ L → H b = some o → H' b = some o
section
variable {H : Hp} {S L : Addr} {a d b : Int} {r : Str}
theorem g_at (h : H S = some (.dK (dk a d r b L))) : DGet H S (.str (Str.ofString "at")) (some (.int a)) := .inl ⟨_, .inr (Str.ofString "at"), .inl h, rfl, rfl⟩
theorem g_dep (h : H S = some (.dK (dk a d r b L))) : DGet H S (.str (Str.ofString "depth")) (some (.int d)) := .inl ⟨_, .inr (Str.ofString "depth"), .inl h, rfl, rfl⟩
theorem g_rdy (h : H S = some (.dK (dk a d r b L))) : DGet H S (.str (Str.ofString "ready")) (some (.str r)) := .inl ⟨_, .inr (Str.ofString "ready"), .inl h, rfl, rfl⟩
theorem g_beg (h : H S = some (.dK (dk a d r b L))) : DGet H S (.str (Str.ofString "begin")) (some (.int b)) := .inl ⟨_, .inr (Str.ofString "begin"), .inl h, rfl, rfl⟩
theorem g_fnd (h : H S = some (.dK (dk a d r b L))) : DGet H S (.str (Str.ofString "found")) (some (.ref L)) := .inl ⟨_, .inr (Str.ofString "found"), .inl h, rfl, rfl⟩
theorem p_at {v : Int} (h : H S = some (.dK (dk a d r b L))) : DPut H S (.str (Str.ofString "at")) (.int v) (upd H S (.dK (dk v d r b L))) := .inl ⟨_, .inr (Str.ofString "at"), h, rfl, (show 5 < sizeLine by decide), rfl⟩
theorem p_dep {v : Int} (h : H S = some (.dK (dk a d r b L))) : DPut H S (.str (Str.ofString "depth")) (.int v) (upd H S (.dK (dk a v r b L))) := .inl ⟨_, .inr (Str.ofString "depth"), h, rfl, (show 5 < sizeLine by decide), rfl⟩
theorem p_beg {v : Int} (h : H S = some (.dK (dk a d r b L))) : DPut H S (.str (Str.ofString "begin")) (.int v) (upd H S (.dK (dk a d r v L))) := .inl ⟨_, .inr (Str.ofString "begin"), h, rfl, (show 5 < sizeLine by decide), rfl⟩
theorem p_rdy {v : Str} (h : H S = some (.dK (dk a d r b L))) : DPut H S (.str (Str.ofString "ready")) (.str v) (upd H S (.dK (dk a d v b L))) := .inl ⟨_, .inr (Str.ofString "ready"), h, rfl, (show 5 < sizeLine by decide), rfl⟩
end
/-- the state stands -/
structure LS (m : Mc) (S L : Addr) (H : Hp) : Prop where
  s : H S = some (.dK (dk m.pos m.dep (stL m.st) m.beg L))
  l : H L = some (.lst (m.fnd.map toV))
theorem LS.ne {m : Mc} {S L : Addr} {H : Hp} (h : LS m S L H) : S ≠ L := fun e => by
  have := h.s
  rw [e, h.l] at this
  cases this
theorem F2.refl {S L : Addr} {H : Hp} : F2 S L H H := fun _ _ _ _ e => e
theorem F2.trans {S L : Addr} {H H1 H2 : Hp} (a : F2 S L H H1) (b : F2 S L H1 H2) : F2 S L H H2 := fun x o n1 n2 e => b x o n1 n2 (a x o n1 n2 e)
theorem F2.ex {S L : Addr} {H H1 : Hp} (a : Ex H H1) : F2 S L H H1 := fun x o _ _ e => a x o e
theorem F2.s {S L : Addr} {H : Hp} {o : HO} : F2 S L H (upd H S o) := fun x o n1 n2 e => by rw [upd_ne n1]; exact e
theorem F2.l {S L : Addr} {H : Hp} {o : HO} : F2 S L H (upd H L o) := fun x o n1 n2 e => by rw [upd_ne n2]; exact e
theorem F2.new {S L p : Addr} {H : Hp} {o : HO} (h : H p = none) : F2 S L H (upd H p o) := F2.ex (Ex.new h)
def spWEnd : Sp := fun vs H Q _ => ∃ (z : Str) (i : Nat), vs = [.str z, .int i] ∧ i ≤ (cs z).length ∧ (cs z).length ≤ 200000 ∧ Q (.int (wEnd (cs z) i)) H
section
variable {P : Program} {w : World} {K : PySem.W.Frag} {mg : Str → Option Value} {base : Heap}
theorem ok_law_word_end (T : Txt P K mg) : Fo false P w K mg base CX0 1 d_law_word_end ["_law_line", "_law_at"] spWEnd := by
  obtain ⟨fd, F⟩ := T.dfn 13 (d := d_law_word_end)
  refine ⟨fd, Fq.mk' F sc_law_word_end (fun vs H Q E h => ?_) (fun cdv A outer s H vs Q E hg hr h => ?_), F⟩
  · obtain ⟨z, i, rfl, _⟩ := h
    rfl
  obtain ⟨z, i, rfl, hi, hz, hQ⟩ := h
  refine ⟨_, (PSs.nox (pss_cons (ps_set (i := 2) sc_law_word_end.nd rfl (Or.inl rfl) (pv 1))
      (pss_cons (ps_while PassesOwn.never (PW.pt (pw_and (pt_cmpR op_lt (pv 2) (pe_callB call_len_str rfl (T.free 39) (by decide +kernel) (pa_cons (pv 0) pa_nil)) (nomark _)) (pw_and1 (pt_cmpR op_notIn_sign (pe_ix ix_str (pv 0) (pv 2) (fun _ _ => rfl)) pe_str (by rfl))))) (pss_one (ps_set (i := 2) sc_law_word_end.nd rfl (Or.inl rfl) (pe_op op_add (pv 2) pe_int))))
      (pss_one (ps_ret (pv 2)))))), ?_⟩
  walk_at "rd"
  have lz := cs_len z
  have hzl : z.length ≤ sizeLine := Nat.le_trans (show z.length ≤ 1000000 by omega) (by decide)
  refine ⟨fun m σ H' => ∃ j : Nat, σ = [some (.str z), some (.int i), some (.int j)] ∧ j ≤ (cs z).length ∧ wEnd (cs z) j = wEnd (cs z) i ∧ H' = H ∧ m = (cs z).length - j, ⟨_, i, rfl, by omega, rfl, rfl, rfl⟩, ?_⟩
  rintro m σ H1 ⟨j, rfl, h4, h5, rfl, rfl⟩
  walk_at "rd"
  refine ⟨hzl, ite2 (fun hj => ?_) (fun hj => ?_)⟩
  · have hj' : j < (cs z).length := by omega
    refine ⟨hzl, _, at_get hj', _, rfl, ite2 (fun h6 => ?_) (fun h6 => ?_)⟩
    · rw [sg4] at h6
      refine ⟨fun σ' H' => σ' = [some (.str z), some (.int i), some (.int ((j + 1 : Nat) : Int))] ∧ H' = H1, fun σ' H' h => ⟨_, ?_, j + 1, h.1, hj', ?_, h.2, rfl⟩, rfl, rfl⟩
      · omega
      · rw [← h5]
        exact (wEnd_go hj' h6).symm
    · rw [sg4] at h6
      have e2 : wEnd (cs z) j = j := wEnd_stop (.inr (Decidable.byContradiction h6))
      rw [← h5, e2] at hQ
      exact hQ
  · have e2 : wEnd (cs z) j = j := wEnd_stop (.inl (by omega))
    rw [← h5, e2] at hQ
    exact hQ
theorem ite_put {c : Prop} [Decidable c] {Pp B : Hp → Prop} {H : Hp} (h : ∃ H2, (c → Pp H2) ∧ (¬ c → H2 = H) ∧ B H2) : if c then ∃ x, Pp x ∧ B x else B H := by
  obtain ⟨H2, h1, h2, h3⟩ := h
  refine ite2 (fun q => ⟨H2, h1 q, h3⟩) (fun q => ?_)
  rw [← h2 q]
  exact h3
theorem stepW {z : List Nat} {m : Mc} (h40 : ¬ z.getD m.pos 0 = 40) (hs : m.st = .s1 ∨ m.st = .s3) (h41 : z.getD m.pos 0 = 41 → m.st = .s3) : step z m = if m.pos < tEnd z m.pos then
    some ⟨if m.dep = 1 then m.fnd ++ [cut z m.pos (tEnd z m.pos)] else m.fnd, .s2, m.dep, if m.dep = 1 then m.pos else m.beg, tEnd z m.pos⟩ else none := by
  have stop : z.getD m.pos 0 = 32 ∨ z.getD m.pos 0 = 40 ∨ z.getD m.pos 0 = 41 → ¬ m.pos < tEnd z m.pos := fun q => by
    unfold tEnd
    rw [if_neg (by omega), wEnd_stop (by omega)]
    omega
  unfold step
  by_cases c41 : z.getD m.pos 0 = 41
  · rw [if_pos c41, if_neg (stop (.inr (.inr c41))), if_neg]
    rw [h41 c41]
    rintro (q | q) <;> cases q
  rw [if_neg c41]
  by_cases c32 : z.getD m.pos 0 = 32
  · rw [if_pos c32, if_neg (stop (.inl c32)), if_neg]
    rcases hs with q | q <;> rw [q] <;> nofun
  rw [if_neg c32, if_neg h40]
  by_cases q : m.pos < tEnd z m.pos
  · rw [if_pos q, if_pos ⟨hs, q⟩]
  · rw [if_neg q, if_neg fun z => q z.2]
theorem stepN {z : List Nat} {m : Mc} (h1 : ¬ (z.getD m.pos 0 = 41 ∧ (m.st = .s1 ∨ m.st = .s2))) (h2 : ¬ (z.getD m.pos 0 = 32 ∧ m.st = .s2)) (h : (m.st = .s2 ∨ m.st = .s4) ∨ (m.st = .s0 ∧ ¬ z.getD m.pos 0 = 40)) : step z m = none := by
  unfold step
  by_cases c41 : z.getD m.pos 0 = 41
  · rw [if_pos c41, if_neg fun q => h1 ⟨c41, q⟩]
  rw [if_neg c41]
  by_cases c32 : z.getD m.pos 0 = 32
  · rw [if_pos c32, if_neg fun q => h2 ⟨c32, q⟩]
  rw [if_neg c32]
  by_cases c40 : z.getD m.pos 0 = 40
  · rw [if_pos c40, if_neg]
    rintro (q | q | q) <;> rcases h with (h | h) | h <;> simp_all
  · rw [if_neg c40, if_neg]
    rintro ⟨q | q, _⟩ <;> rcases h with (h | h) | h <;> simp_all
def spEnded : Sp := fun vs H Q _ => ∃ (z : Str) (S L : Addr) (e bg : Nat) (at_ dep : Int) (rd : Str) (xs : List V), vs = [.str z, .ref S, .int e] ∧ (cs z).length ≤ 200000 ∧ H S = some (.dK (dk at_ dep rd bg L)) ∧ H L = some (.lst xs) ∧ xs.length < sizeLine ∧ S ≠ L ∧
  ∀ H', F2 S L H H' → H' S = some (.dK (dk e dep "behind" bg L)) → H' L = some (.lst (if dep = 1 then xs ++ [.str (cutS z (some (bg : Int)) (some (e : Int)))] else xs)) → Q .non H'
theorem ok_law_ended (T : Txt P K mg) : Fo false P w K mg base CX0 1 d_law_ended ["_law_line", "_law_state", "_law_end"] spEnded := by
  obtain ⟨fd, F⟩ := T.dfn 14 (d := d_law_ended)
  refine ⟨fd, Fq.mk' F sc_law_ended (fun vs H Q E h => ?_) (fun cdv A outer s H vs Q E hg hr h => ?_), F⟩
  · obtain ⟨z, S, L, e, bg, at_, dep, rd, xs, rfl, _⟩ := h
    rfl
  obtain ⟨z, S, L, e, bg, at_, dep, rd, xs, rfl, hz, hS, hL, hxl, ne, hQ⟩ := h
  refine ⟨_, (PSs.nox (pss_cons (ps_if (pt_cmpR op_eq (pe_dget (hu_of hr) (pv 1) pe_str (fun _ _ => rfl)) pe_int (nomark _)) (pss_one (ps_expr (pe_bm PySem.F.plainAttrs_list PySem.F.slot_list_append PySem.F.type_list_append mt_append (pe_dget (hu_of hr) (pv 1) pe_str (fun _ _ => rfl)) (pa_cons (pe_slice sl_str (pv 0) (po_some (pe_dget (hu_of hr) (pv 1) pe_str (fun _ _ => rfl))) (po_some (pv 2))) pa_nil)))) pss_nil)
      (pss_one (ps_asg (pe_tup (pa_cons (pv 2) (pa_cons pe_str pa_nil))) (pg_tup (n := 2) rfl (pgs_cons (pg_sub (pv 1) pe_str (set_dict (hu_of hr))) (pgs_cons (pg_sub (pv 1) pe_str (set_dict (hu_of hr))) pgs_nil))))))), ?_⟩
  walk_at "rd"
  have lz := cs_len z
  have hzl : z.length ≤ sizeLine := Nat.le_trans (show z.length ≤ 1000000 by omega) (by decide)
  refine ⟨_, g_dep hS, rfl, ite2 (fun h1 => ?_) (fun h1 => ?_)⟩
  · have h1 : dep = 1 := by simpa using h1
    refine ⟨_, g_fnd hS, Or.inl ⟨rfl, _, SqL.of hL⟩, _, g_beg hS, _, rfl, hzl, _, rfl, _, hL, hxl, by decide, fun p hp => ⟨_, SqT.of upd_same, rfl, _, _, rfl, _, p_at (a := at_) (d := dep) (r := rd) (b := bg) (L := L) ?_, _, _, rfl, _, p_rdy upd_same, rfl, ?_⟩⟩
    · have := upd_none hp
      rw [upd_ne (ne_of_none hS this.2), upd_ne ne]
      exact hS
    · have := upd_none hp
      refine hQ _ (F2.trans (F2.trans (F2.trans F2.l (F2.new hp)) F2.s) F2.s) upd_same ?_
      rw [upd_ne ne.symm, upd_ne ne.symm, upd_ne this.1.symm, upd_same, if_pos h1]
  · have h1 : ¬ dep = 1 := by simpa using h1
    refine ⟨by decide, fun p hp => ⟨_, SqT.of upd_same, rfl, _, _, rfl, _, p_at (a := at_) (d := dep) (r := rd) (b := bg) (L := L) ?_, _, _, rfl, _, p_rdy upd_same, rfl, ?_⟩⟩
    · rw [upd_ne (ne_of_none hS hp)]
      exact hS
    · refine hQ _ (F2.trans (F2.trans (F2.new hp) F2.s) F2.s) upd_same ?_
      rw [upd_ne ne.symm, upd_ne ne.symm, upd_ne (ne_of_none hL hp), if_neg h1]
      exact hL
/-- by the machine's turn -/
def spClosed : Sp := fun vs H Q _ => ∃ (z : Str) (S L : Addr) (m m' : Mc), vs = [.str z, .ref S] ∧ (cs z).length ≤ 200000 ∧ LS m S L H ∧ Way (cs z) m ∧ m.pos < (cs z).length ∧ (cs z).getD m.pos 0 = 41 ∧ (m.st = .s1 ∨ m.st = .s2) ∧ step (cs z) m = some m' ∧
  ∀ H', F2 S L H H' → LS m' S L H' → Q .non H'
theorem ok_law_closed (T : Txt P K mg) : Fo false P w K mg base CX0 2 d_law_closed ["_law_line", "_law_state"] spClosed := by
  obtain ⟨fd, F⟩ := T.dfn 16 (d := d_law_closed)
  refine ⟨fd, Fq.mk' F sc_law_closed (fun vs H Q E h => ?_) (fun cdv A outer s H vs Q E hg hr h => ?_), F⟩
  · obtain ⟨z, S, L, m, m', rfl, _⟩ := h
    rfl
  obtain ⟨z, S, L, m, m', rfl, hz, hs, way, hp, hc, hst, hstep, hQ⟩ := h
  refine ⟨_, (PSs.nox (pss_cons (ps_asg (pe_op op_sub (pe_dget (hu_of hr) (pv 1) pe_str (fun _ _ => rfl)) pe_int) (pg_sub (pv 1) pe_str (set_dict (hu_of hr))))
      (pss_cons (ps_expr (pe_o (ok_law_ended T) (T.glo 30) (b_law_ended) gd_false (hr.mono (by omega)) rfl pass0 (pa_cons (pv 0) (pa_cons (pv 1) (pa_cons (pe_op op_add (pe_dget (hu_of hr) (pv 1) pe_str (fun _ _ => rfl)) pe_int) pa_nil)))))
      (pss_one (ps_if (pt_cmpR op_eq (pe_dget (hu_of hr) (pv 1) pe_str (fun _ _ => rfl)) pe_int (nomark _)) (pss_one (ps_asg pe_str (pg_sub (pv 1) pe_str (set_dict (hu_of hr))))) pss_nil))))), ?_⟩
  walk_at "rd"
  have ok := way.1
  have hfl : m.fnd.length < sizeLine := Nat.lt_of_le_of_lt (show m.fnd.length ≤ 1000000 by have := ok.hf; omega) (by decide)
  have hd1 := ok.h1 (by rcases hst with q | q <;> simp [q])
  unfold step at hstep
  rw [if_pos hc, if_pos hst] at hstep
  cases hstep
  have ed : (m.dep : Int) - 1 = ((m.dep - 1 : Nat) : Int) := by omega
  refine ⟨_, g_dep hs.s, _, rfl, _, p_dep hs.s, _, g_at upd_same, _, rfl, z, S, L, m.pos + 1, m.beg, _, _, _, _, rfl, hz, upd_same, (upd_ne hs.ne.symm).trans hs.l, by rw [List.length_map]; exact hfl, hs.ne, fun H' f hS hL => ⟨_, g_dep hS, rfl, ?_⟩⟩
  have el : H' L = some (.lst ((if m.dep - 1 = 1 then m.fnd ++ [cut (cs z) m.beg (m.pos + 1)] else m.fnd).map toV)) := by
    rw [hL]
    by_cases q : m.dep - 1 = 1
    · rw [if_pos q, if_pos (by omega), List.map_append]
      have hb := (bg_le way hp).2
      have e1 : cutS z (some (m.beg : Int)) (some ((m.pos + 1 : Nat) : Int)) = ⟨(cut (cs z) m.beg (m.pos + 1)).toArray⟩ := cs_inj (by rw [cutS_cut z _ _ hb (by omega)])
      rw [e1]
      rfl
    · rw [if_neg q, if_neg (by omega)]
  refine ite2 (fun h => ?_) (fun h => ?_)
  · have h : (m.dep : Int) - 1 = 0 := by simpa using h
    refine ⟨_, p_rdy hS, hQ _ ((F2.s.trans f).trans F2.s) ⟨?_, (upd_ne hs.ne.symm).trans el⟩⟩
    rw [upd_same]
    show some (HO.dK (dk _ _ _ _ _)) = some (HO.dK (dk _ _ (stL (if m.dep - 1 = 0 then Q5.s4 else Q5.s2)) _ _))
    rw [show (if m.dep - 1 = 0 then Q5.s4 else Q5.s2) = .s4 from if_pos (by omega), ed]
    rfl
  · have h : ¬ (m.dep : Int) - 1 = 0 := by simpa using h
    refine hQ _ (F2.s.trans f) ⟨?_, el⟩
    rw [hS]
    show some (HO.dK (dk _ _ _ _ _)) = some (HO.dK (dk _ _ (stL (if m.dep - 1 = 0 then Q5.s4 else Q5.s2)) _ _))
    rw [show (if m.dep - 1 = 0 then Q5.s4 else Q5.s2) = .s2 from if_neg (by omega), ed]
    rfl
def spBegun : Sp := fun vs H Q _ => ∃ (z : Str) (S L : Addr) (m : Mc), vs = [.str z, .ref S] ∧ (cs z).length ≤ 200000 ∧ LS m S L H ∧ Way (cs z) m ∧ m.pos < (cs z).length ∧ (m.st = .s1 ∨ m.st = .s3 ∨ (m.st = .s0 ∧ (cs z).getD m.pos 0 = 40)) ∧ ((cs z).getD m.pos 0 = 41 → m.st = .s3) ∧
  (∀ m', step (cs z) m = some m' → ∀ H', F2 S L H H' → LS m' S L H' → Q (.bl true) H') ∧ (step (cs z) m = none → ∀ H', F2 S L H H' → Q (.bl false) H')
theorem ok_law_begun (T : Txt P K mg) : Fo false P w K mg base CX0 2 d_law_begun ["_law_line", "_law_state"] spBegun := by
  obtain ⟨fd, F⟩ := T.dfn 15 (d := d_law_begun)
  refine ⟨fd, Fq.mk' F sc_law_begun (fun vs H Q E h => ?_) (fun cdv A outer s H vs Q E hg hr h => ?_), F⟩
  · obtain ⟨z, S, L, m, rfl, _⟩ := h
    rfl
  obtain ⟨z, S, L, m, rfl, hz, hs, way, hp, hst, h41, hY, hN⟩ := h
  refine ⟨_, (PSs.nox (pss_cons (ps_set (i := 2) sc_law_begun.nd rfl (Or.inl rfl) (pe_dget (hu_of hr) (pv 1) pe_str (fun _ _ => rfl)))
      (pss_cons (ps_if (pt_cmpR op_eq (pe_dget (hu_of hr) (pv 1) pe_str (fun _ _ => rfl)) pe_int (nomark _)) (pss_one (ps_asg (pv 2) (pg_sub (pv 1) pe_str (set_dict (hu_of hr))))) pss_nil)
      (pss_cons (ps_if (pt_cmpR op_eq (pe_ix ix_str (pv 0) (pv 2) (fun _ _ => rfl)) pe_str (nomark _)) (pss_cons (ps_asg (pe_tup (pa_cons (pe_op op_add (pe_dget (hu_of hr) (pv 1) pe_str (fun _ _ => rfl)) pe_int) (pa_cons (pe_op op_add (pv 2) pe_int) (pa_cons pe_str pa_nil)))) (pg_tup (n := 3) rfl (pgs_cons (pg_sub (pv 1) pe_str (set_dict (hu_of hr))) (pgs_cons (pg_sub (pv 1) pe_str (set_dict (hu_of hr))) (pgs_cons (pg_sub (pv 1) pe_str (set_dict (hu_of hr))) pgs_nil)))))
      (pss_one (ps_ret (pe_cmpR op_lt (pe_dget (hu_of hr) (pv 1) pe_str (fun _ _ => rfl)) pe_int (nomark _))))) pss_nil)
      (pss_cons (ps_set (i := 3) sc_law_begun.nd rfl (Or.inl rfl) (pe_ifExp (pt_cmpR op_eq (pe_ix ix_str (pv 0) (pv 2) (fun _ _ => rfl)) pe_str (nomark _)) (pe_op op_add (pe_bm PySem.F.plainAttrs_str PySem.F.slot_str_find PySem.F.type_str_find mt_find3 (pv 0) (pa_cons pe_str (pa_cons (pe_op op_add (pv 2) pe_int) pa_nil))) pe_int) (pe_o (ok_law_word_end T) (T.glo 29) (b_law_word_end) gd_false (hr.mono (by omega)) rfl pass0 (pa_cons (pv 0) (pa_cons (pv 2) pa_nil)))))
      (pss_cons (ps_if (pt_cmpR op_gt (pv 3) (pv 2) (nomark _)) (pss_one (ps_expr (pe_o (ok_law_ended T) (T.glo 30) (b_law_ended) gd_false (hr.mono (by omega)) rfl pass0 (pa_cons (pv 0) (pa_cons (pv 1) (pa_cons (pv 3) pa_nil)))))) pss_nil)
      (pss_one (ps_ret (pe_cmpR op_gt (pv 3) (pv 2) (nomark _)))))))))), ?_⟩
  walk_at "rd"
  have lz := cs_len z
  have hzl : z.length ≤ sizeLine := Nat.le_trans (show z.length ≤ 1000000 by omega) (by decide)
  have ok := way.1
  have hfl : m.fnd.length < sizeLine := Nat.lt_of_le_of_lt (show m.fnd.length ≤ 1000000 by have := ok.hf; omega) (by decide)
  refine ⟨_, g_at hs.s, _, g_dep hs.s, rfl, ite_put ?_⟩
  obtain ⟨bg, hbg⟩ : ∃ bg : Nat, bg = if m.dep = 1 then m.pos else m.beg := ⟨_, rfl⟩
  have cc : (V.int (m.dep : Int) = V.int 1) ↔ m.dep = 1 := ⟨fun q => by have := V.int.inj q; omega, fun q => by rw [q]; rfl⟩
  have hH2 : ∃ H2, (V.int (m.dep : Int) = V.int 1 → DPut H S (V.str (Str.ofString "begin")) (V.int m.pos) H2) ∧ (¬ V.int (m.dep : Int) = V.int 1 → H2 = H) ∧ F2 S L H H2 ∧ H2 S = some (.dK (dk m.pos m.dep (stL m.st) bg L)) ∧ H2 L = some (.lst (m.fnd.map toV)) := by
    by_cases q : m.dep = 1
    · refine ⟨_, fun _ => p_beg hs.s, fun z => absurd (cc.mpr q) z, F2.s, ?_, (upd_ne hs.ne.symm).trans hs.l⟩
      rw [upd_same, hbg, if_pos q]
    · refine ⟨H, fun z => absurd (cc.mp z) q, fun _ => rfl, F2.refl, ?_, hs.l⟩
      rw [hs.s, hbg, if_neg q]
  obtain ⟨H2, c1, c2, f2, s2, l2⟩ := hH2
  refine ⟨H2, c1, c2, _, rfl, hzl, _, at_get hp, ?_⟩
  have fail : step (cs z) m = none → ∀ H', F2 S L H2 H' → Q (.bl false) H' := fun e H' f => hN e H' (f2.trans f)
  refine ite2 (fun h => ?_) (fun h => ?_)
  · have h : (cs z).getD m.pos 0 = 40 := by rw [op1, one_eq] at h; exact h
    have hst' : m.st = .s0 ∨ m.st = .s1 ∨ m.st = .s3 := by rcases hst with q | q | q <;> simp [q]
    refine ⟨_, g_dep s2, _, rfl, _, rfl, by decide, fun p hp => ⟨_, SqT.of upd_same, rfl, _, _, rfl, _, p_dep (a := m.pos) (d := m.dep) (r := stL m.st) (b := bg) (L := L) ?_, _, _, rfl, _, p_at upd_same, _, _, rfl, _, p_rdy upd_same, rfl, _, g_dep upd_same, _, rfl, ?_⟩⟩
    · rw [upd_ne (ne_of_none s2 hp)]
      exact s2
    · unfold step at hY fail
      rw [if_neg (show ¬ (cs z).getD m.pos 0 = 41 by omega), if_neg (show ¬ (cs z).getD m.pos 0 = 32 by omega), if_pos h, if_pos hst'] at hY fail
      have ff : F2 S L H2 (upd (upd (upd (upd H2 p (HO.tup [V.int ((m.dep : Int) + 1), V.int ((m.pos : Int) + 1), V.str (Str.ofString "first")])) S (.dK (dk m.pos ((m.dep : Int) + 1) (stL m.st) bg L))) S (.dK (dk ((m.pos : Int) + 1) ((m.dep : Int) + 1) (stL m.st) bg L))) S (.dK (dk ((m.pos : Int) + 1) ((m.dep : Int) + 1) (Str.ofString "first") bg L))) :=
        ((((F2.new hp).trans F2.s).trans F2.s).trans F2.s)
      by_cases hd : m.dep + 1 ≤ 13
      · rw [decide_eq_true (by omega)]
        rw [if_pos hd] at hY
        refine hY _ rfl _ (f2.trans ff) ⟨?_, ?_⟩
        · rw [upd_same, hbg]
          rfl
        · rw [upd_ne hs.ne.symm, upd_ne hs.ne.symm, upd_ne hs.ne.symm, upd_ne (ne_of_none l2 hp)]
          exact l2
      · rw [decide_eq_false (by omega)]
        rw [if_neg hd] at fail
        exact fail rfl _ ff
  · have h : ¬ (cs z).getD m.pos 0 = 40 := by rw [op1, one_eq] at h; exact h
    have hst' : m.st = .s1 ∨ m.st = .s3 := by
      rcases hst with q | q | q
      · exact .inl q
      · exact .inr q
      · exact absurd q.2 h
    rw [stepW h hst' h41] at hY fail
    have hle := tEnd_le (cs z) m.pos (by omega)
    have fin : ∀ H3, F2 S L H2 H3 → H3 S = some (.dK (dk (tEnd (cs z) m.pos : Nat) m.dep (Str.ofString "behind") bg L)) → H3 L = some (.lst (if (m.dep : Int) = 1 then m.fnd.map toV ++ [.str (cutS z (some (bg : Int)) (some ((tEnd (cs z) m.pos : Nat) : Int)))] else m.fnd.map toV)) → m.pos < tEnd (cs z) m.pos → Q (.bl true) H3 := by
      intro H3 f3 s3 l3 hgt
      rw [if_pos hgt] at hY
      refine hY _ rfl _ (f2.trans f3) ⟨?_, ?_⟩
      · rw [s3, hbg]
        rfl
      · rw [l3]
        by_cases q : m.dep = 1
        · rw [if_pos (by omega)]
          simp only [if_pos q, List.map_append]
          rw [hbg, if_pos q]
          have e1 : cutS z (some (m.pos : Int)) (some ((tEnd (cs z) m.pos : Nat) : Int)) = ⟨(cut (cs z) m.pos (tEnd (cs z) m.pos)).toArray⟩ := cs_inj (by rw [cutS_cut z _ _ (by omega) hle])
          rw [e1]
          rfl
        · rw [if_neg (by omega)]
          simp only [if_neg q]
    refine ⟨_, rfl, hzl, _, at_get hp, ite2 (fun h2 => ?_) (fun h2 => ?_)⟩
    · have h2 := one_q.mp h2
      have fq : Txt.find3 z (Str.ofString "'") ((m.pos : Int) + 1) + 1 = (tEnd (cs z) m.pos : Nat) := by
        unfold tEnd
        rw [if_pos h2, qu1]
        exact find_q z (m.pos + 1) (by omega)
      refine ⟨rfl, _, rfl, _, rfl, ?_⟩
      rw [fq]
      refine ite2 (fun h3 => ?_) (fun h3 => ?_)
      · refine ⟨z, S, L, _, bg, _, _, _, _, rfl, hz, s2, l2, by rw [List.length_map]; exact hfl, hs.ne, fun H' f hS hL => ⟨_, rfl, ?_⟩⟩
        rw [decide_eq_true h3]
        exact fin H' f hS hL (by omega)
      · refine ⟨_, rfl, ?_⟩
        rw [decide_eq_false h3]
        exact fail (if_neg (by omega)) _ F2.refl
    · have h2 : ¬ (cs z).getD m.pos 0 = 39 := fun q => h2 (one_q.mpr q)
      have ew : wEnd (cs z) m.pos = tEnd (cs z) m.pos := by
        unfold tEnd
        rw [if_neg h2]
      refine ⟨z, m.pos, rfl, by omega, hz, ?_⟩
      rw [ew]
      refine ⟨_, rfl, _, rfl, ite2 (fun h3 => ?_) (fun h3 => ?_)⟩
      · refine ⟨z, S, L, _, bg, _, _, _, _, rfl, hz, s2, l2, by rw [List.length_map]; exact hfl, hs.ne, fun H' f hS hL => ⟨_, rfl, _, rfl, ?_⟩⟩
        rw [decide_eq_true h3]
        exact fin H' f hS hL (by omega)
      · refine ⟨_, rfl, _, rfl, ?_⟩
        rw [decide_eq_false h3]
        exact fail (if_neg (by omega)) _ F2.refl
theorem ok_law_scanned (T : Txt P K mg) : Fo false P w K mg base CX0 3 d_law_scanned ["_law_line"] spParts := by
  obtain ⟨fd, F⟩ := T.dfn 17 (d := d_law_scanned)
  refine ⟨fd, Fq.mk' F sc_law_scanned (fun vs H Q E h => ?_) (fun cdv A outer s H vs Q E hg hr h => ?_), F⟩
  · obtain ⟨z, rfl, _⟩ := h
    rfl
  obtain ⟨z, rfl, hz, hN, hS⟩ := h
  refine ⟨_, (PSs.nox (pss_cons (ps_set (i := 1) sc_law_scanned.nd rfl (Or.inl rfl) (pe_disp (pps_cons pe_str pe_int (pps_cons pe_str pe_int (pps_cons pe_str pe_str (pps_cons pe_str pe_int (pps_cons pe_str (pe_lst pa_nil) pps_nil))))) (by rfl) (by rfl) (fun z => by cases z) (by decide)))
      (pss_cons (ps_while PassesOwn.never (pt_cmpR op_lt (pe_dget (hu_of hr) (pv 1) pe_str (fun _ _ => rfl)) (pe_callB call_len_str rfl (T.free 39) (by decide +kernel) (pa_cons (pv 0) pa_nil)) (nomark _)) (pss_cons (ps_par (i := 2) (j := 3) (by rfl) sc_law_scanned.nd rfl rfl (by decide) rfl rfl (pa_cons (pe_ix ix_str (pv 0) (pe_dget (hu_of hr) (pv 1) pe_str (fun _ _ => rfl)) (fun _ _ => rfl)) (pa_cons (pe_dget (hu_of hr) (pv 1) pe_str (fun _ _ => rfl)) pa_nil)) (by rfl))
      (pss_one (ps_if (PW.pt (pw_and (pt_cmpR op_eq (pv 2) pe_str (nomark _)) (pw_and1 (pt_cmpR op_in_seq (pv 3) (pe_tup (pa_cons pe_str (pa_cons pe_str pa_nil))) (by rfl))))) (pss_one (ps_expr (pe_o (ok_law_closed T) (T.glo 32) (b_law_closed) gd_false (hr.mono (by omega)) rfl pass0 (pa_cons (pv 0) (pa_cons (pv 1) pa_nil))))) (pss_one (ps_if (PW.pt (pw_and (pt_cmpR op_eq (pv 2) pe_str (nomark _)) (pw_and1 (pt_cmpR op_eq (pv 3) pe_str (nomark _))))) (pss_one (ps_asg (pe_tup (pa_cons (pe_op op_add (pe_dget (hu_of hr) (pv 1) pe_str (fun _ _ => rfl)) pe_int) (pa_cons pe_str pa_nil))) (pg_tup (n := 2) rfl (pgs_cons (pg_sub (pv 1) pe_str (set_dict (hu_of hr))) (pgs_cons (pg_sub (pv 1) pe_str (set_dict (hu_of hr))) pgs_nil))))) (pss_one (ps_if (PW.pt (pw_or (pt_cmpR op_in_seq (pv 3) (pe_tup (pa_cons pe_str (pa_cons pe_str pa_nil))) (by rfl)) (pw_or (PW.pt (pw_and (pt_cmpR op_eq (pv 3) pe_str (nomark _)) (pw_and1 (pt_cmpR op_ne (pv 2) pe_str (nomark _))))) (pw_or1 (pt_not (pt_val (pe_o (ok_law_begun T) (T.glo 31) (b_law_begun) gd_false (hr.mono (by omega)) rfl pass0 (pa_cons (pv 0) (pa_cons (pv 1) pa_nil))))))))) (pss_one (ps_ret pe_non)) pss_nil))))))))
      (pss_one (ps_ret (pe_ifExp (pt_cmpR op_eq (pe_dget (hu_of hr) (pv 1) pe_str (fun _ _ => rfl)) pe_str (nomark _)) (pe_dget (hu_of hr) (pv 1) pe_str (fun _ _ => rfl)) pe_non)))))), ?_⟩
  walk_at "rd"
  have lz := cs_len z
  have hzl : z.length ≤ sizeLine := Nat.le_trans (show z.length ≤ 1000000 by omega) (by decide)
  refine fun S hS0 => ⟨by decide, fun L hL0 => ⟨?_, [(.inr (Str.ofString "at"), .int 0), (.inr (Str.ofString "depth"), .int 0), (.inr (Str.ofString "ready"), .str (Str.ofString "start")), (.inr (Str.ofString "begin"), .int 0), (.inr (Str.ofString "found"), .ref L)], rfl, (show 5 ≤ 15 by decide), ?_⟩⟩
  · rw [upd_ne (upd_none hL0).1.symm, upd_same]
  have nLS := (upd_none hL0).1
  have hL00 := (upd_none hL0).2
  refine ⟨fun k σ H' => ∃ (o1 o2 : Option V) (m : Mc), σ = [some (.str z), some (.ref S), o1, o2] ∧ LS m S L H' ∧ Way (cs z) m ∧ Ex H H' ∧ k = (cs z).length - m.pos, ⟨_, none, none, init, rfl, ⟨upd_same, ?_⟩, way_init _, ?_, rfl⟩, ?_⟩
  · rw [upd_ne nLS, upd_same]
    rfl
  · exact Ex.keep ((Ex.new hS0).trans (Ex.new hL0)) hS0
  rintro k σ H1 ⟨o1, o2, m, rfl, ls, way, ex1, rfl⟩
  walk_at "rd"
  refine ⟨_, g_at ls.s, hzl, _, rfl, ite2 (fun hlt => ?_) (fun hlt => ?_)⟩
  rotate_left
  · have re := way_end way (by omega)
    refine ⟨_, g_rdy ls.s, rfl, ite2 (fun h => ?_) (fun h => ?_)⟩
    · have hs : m.st = .s4 := by
        revert h
        cases m.st <;> decide +kernel
      rw [if_pos hs] at re
      exact ⟨_, g_fnd ls.s, hS _ re L H1 hL00 ex1 ls.l⟩
    · rw [if_neg (fun q => h (by rw [q]; rfl))] at re
      exact hN re _ ex1
  have hlt : m.pos < (cs z).length := by omega
  refine ⟨fun σ' H' => ∃ (o1 o2 : Option V) (m' : Mc), σ' = [some (.str z), some (.ref S), o1, o2] ∧ LS m' S L H' ∧ Way (cs z) m' ∧ Ex H H' ∧ m.pos < m'.pos, fun σ' H' ⟨o1, o2, m', e1, e2, e3, e4, e5⟩ => ⟨_, ?_, o1, o2, e1, m', e2, e3, e4, rfl⟩, _, g_at ls.s, _, rfl, hzl, _, at_get hlt, _, g_rdy ls.s, ?_⟩
  · omega
  have wst := way_step way hlt
  have none_ : step (cs z) m = none → ∀ H2, Ex H1 H2 → Q .non H2 := fun e H2 ex2 => by
    rcases wst with ⟨_, w⟩ | ⟨m', w, _⟩
    · exact hN w _ (ex1.trans ex2)
    · rw [e] at w; cases w
  have lsx : ∀ H2, Ex H1 H2 → LS m S L H2 := fun H2 ex2 => ⟨ex2 _ _ ls.s, ex2 _ _ ls.l⟩
  have out : ∀ {H2 H3 : Hp}, Ex H1 H2 → F2 S L H2 H3 → Ex H H3 := fun {H2 H3} e f b o q => f b o (ne_of_none q hS0) (ne_of_none q hL00) (e _ _ (ex1 _ _ q))
  have done_ : ∀ {m' : Mc} {H2 H3 : Hp} {o1 o2 : Option V}, Ex H1 H2 → F2 S L H2 H3 → step (cs z) m = some m' → LS m' S L H3 → ∃ (o1' o2' : Option V) (m' : Mc), [some (V.str z), some (V.ref S), o1, o2] = [some (.str z), some (.ref S), o1', o2'] ∧ LS m' S L H3 ∧ Way (cs z) m' ∧ Ex H H3 ∧ m.pos < m'.pos := by
    intro m' H2 H3 o1 o2 e f hs l3
    rcases wst with ⟨w, _⟩ | ⟨m'', w, w2, w3⟩
    · rw [hs] at w; cases w
    · rw [hs] at w; cases w
      exact ⟨_, _, m', rfl, l3, w2, out e f, w3⟩
  have bg0 : ∀ H3, Ex H1 H3 → (m.st = .s1 ∨ m.st = .s3 ∨ (m.st = .s0 ∧ (cs z).getD m.pos 0 = 40)) → ((cs z).getD m.pos 0 = 41 → m.st = .s3) → spBegun [V.str z, V.ref S] H3 (fun x H1 => ∃ c, x = V.bl c ∧ if c = false then Q V.non H1 else (fun σ' H' => ∃ (o1 o2 : Option V) (m' : Mc), σ' = [some (.str z), some (.ref S), o1, o2] ∧ LS m' S L H' ∧ Way (cs z) m' ∧ Ex H H' ∧ m.pos < m'.pos) [some (V.str z), some (V.ref S), some (V.str ⟨#[(cs z).getD m.pos 0]⟩), some (V.str (stL m.st))] H1) E0 := by
    intro H3 ex3 c1 c2
    refine ⟨z, S, L, m, rfl, hz, lsx _ ex3, way, hlt, c1, c2, fun m' hs H' f l' => ⟨_, rfl, (if_neg (by decide)).mpr (done_ ex3 f hs l')⟩, fun hs H' f => ⟨_, rfl, (if_pos rfl).mpr ?_⟩⟩
    rcases wst with ⟨_, w⟩ | ⟨m', w, _⟩
    · exact hN w _ (out ex3 f)
    · rw [hs] at w; cases w
  refine ite2 (fun h1 => ?_) (fun h1 => ?_)
  · have h1 : (cs z).getD m.pos 0 = 41 := by rw [cl1, one_eq] at h1; exact h1
    refine ⟨by decide, fun p0 hp0 => ⟨_, .inr (SqT.of upd_same), rfl, rfl, ?_⟩⟩
    have ex2 : Ex H1 (upd H1 p0 (HO.tup [V.str (Str.ofString "first"), V.str (Str.ofString "behind")])) := Ex.new hp0
    generalize upd H1 p0 (HO.tup [V.str (Str.ofString "first"), V.str (Str.ofString "behind")]) = H2 at ex2 ⊢
    refine ite2 (fun h2 => ?_) (fun h2 => ?_)
    · have h2' : m.st = .s1 ∨ m.st = .s2 := by revert h2; cases m.st <;> decide +kernel
      have hs : ∃ m', step (cs z) m = some m' := by
        unfold step
        rw [if_pos h1, if_pos h2']
        exact ⟨_, rfl⟩
      obtain ⟨m', hs⟩ := hs
      exact ⟨z, S, L, m, m', rfl, hz, lsx _ ex2, way, hlt, h1, h2', hs, fun H' f l' => done_ ex2 f hs l'⟩
    · have h2' : ¬ (m.st = .s1 ∨ m.st = .s2) := by revert h2; cases m.st <;> decide +kernel
      have hn1 : ¬ ((cs z).getD m.pos 0 = 41 ∧ (m.st = .s1 ∨ m.st = .s2)) := fun q => h2' q.2
      have hn2 : ¬ ((cs z).getD m.pos 0 = 32 ∧ m.st = .s2) := fun q => h2' (.inr q.2)
      have bg := fun H3 e3 c1 => bg0 H3 e3 c1 fun _ => by
        rcases c1 with q | q | q
        · exact absurd (.inl q) h2'
        · exact q
        · omega
      rw [if_neg (show ¬ (⟨#[(cs z).getD m.pos 0]⟩ : Str) = Str.ofString " " by rw [sp1, one_eq]; omega)]
      refine ⟨by decide, fun p hp => ⟨_, .inr (SqT.of upd_same), rfl, rfl, ?_⟩⟩
      have ex3 : Ex H1 (upd H2 p (HO.tup [V.str (Str.ofString "behind"), V.str (Str.ofString "end")])) := ex2.trans (Ex.new hp)
      refine ite2 (fun h4 => ?_) (fun h4 => ?_)
      · have h4' : m.st = .s2 ∨ m.st = .s4 := by revert h4; cases m.st <;> decide +kernel
        exact none_ (stepN hn1 hn2 (.inl h4')) _ ex3
      · have h4' : ¬ (m.st = .s2 ∨ m.st = .s4) := by revert h4; cases m.st <;> decide +kernel
        refine ⟨rfl, ite2 (fun h5 => ?_) (fun h5 => ?_)⟩
        · have h5' : m.st = .s0 := by revert h5; cases m.st <;> decide +kernel
          refine ite2 (fun h6 => ?_) (fun h6 => ?_)
          · rw [op1, one_eq] at h6
            exact none_ (stepN hn1 hn2 (.inr ⟨h5', h6⟩)) _ ex3
          · have h6 : (cs z).getD m.pos 0 = 40 := Decidable.byContradiction fun q => h6 (by rw [op1, one_eq]; exact q)
            exact bg _ ex3 (.inr (.inr ⟨h5', h6⟩))
        · have h5' : ¬ m.st = .s0 := by revert h5; cases m.st <;> decide +kernel
          refine bg _ ex3 ?_
          revert h4' h5'
          cases m.st <;> simp
  · have h1 : ¬ (cs z).getD m.pos 0 = 41 := by rw [cl1, one_eq] at h1; exact h1
    have hn1 : ¬ ((cs z).getD m.pos 0 = 41 ∧ (m.st = .s1 ∨ m.st = .s2)) := fun q => h1 q.1
    have bg := fun H3 e3 c1 => bg0 H3 e3 c1 fun q => absurd q h1
    have ex2 : Ex H1 H1 := Same.refl _
    refine ite2 (fun h2 => ⟨rfl, ite2 (fun h3 => ?_) (fun h3 => ?_)⟩) (fun h2 => ?_)
    · have h2 : (cs z).getD m.pos 0 = 32 := by rw [sp1, one_eq] at h2; exact h2
      have h3' : m.st = .s2 := by revert h3; cases m.st <;> decide +kernel
      have hs : step (cs z) m = some ⟨m.fnd, .s3, m.dep, m.beg, m.pos + 1⟩ := by
        unfold step
        rw [if_neg h1, if_pos h2, if_pos h3']
      refine ⟨_, g_at ls.s, _, rfl, by decide, fun p hp => ⟨_, SqT.of upd_same, rfl, _, _, rfl, _, p_at (a := m.pos) (d := m.dep) (r := stL m.st) (b := m.beg) (L := L) ?_, _, _, rfl, _, p_rdy upd_same, rfl, ?_⟩⟩
      · rw [upd_ne (ne_of_none ls.s hp)]
        exact ls.s
      · refine done_ ex2 (((F2.new hp).trans F2.s).trans F2.s) hs ⟨upd_same, ?_⟩
        rw [upd_ne ls.ne.symm, upd_ne ls.ne.symm, upd_ne (ne_of_none ls.l hp)]
        exact ls.l
    · have h3' : ¬ m.st = .s2 := by revert h3; cases m.st <;> decide +kernel
      have hn2 : ¬ ((cs z).getD m.pos 0 = 32 ∧ m.st = .s2) := fun q => h3' q.2
      refine ⟨by decide, fun p hp => ⟨_, .inr (SqT.of upd_same), rfl, rfl, ?_⟩⟩
      have ex3 : Ex H1 (upd H1 p (HO.tup [V.str (Str.ofString "behind"), V.str (Str.ofString "end")])) := ex2.trans (Ex.new hp)
      refine ite2 (fun h4 => ?_) (fun h4 => ?_)
      · have h4' : m.st = .s2 ∨ m.st = .s4 := by revert h4; cases m.st <;> decide +kernel
        exact none_ (stepN hn1 hn2 (.inl h4')) _ ex3
      · have h4' : ¬ (m.st = .s2 ∨ m.st = .s4) := by revert h4; cases m.st <;> decide +kernel
        refine ⟨rfl, ite2 (fun h5 => ?_) (fun h5 => ?_)⟩
        · have h5' : m.st = .s0 := by revert h5; cases m.st <;> decide +kernel
          refine ite2 (fun h6 => ?_) (fun h6 => ?_)
          · rw [op1, one_eq] at h6
            exact none_ (stepN hn1 hn2 (.inr ⟨h5', h6⟩)) _ ex3
          · have h6 : (cs z).getD m.pos 0 = 40 := Decidable.byContradiction fun q => h6 (by rw [op1, one_eq]; exact q)
            exact bg _ ex3 (.inr (.inr ⟨h5', h6⟩))
        · have h5' : ¬ m.st = .s0 := by revert h5; cases m.st <;> decide +kernel
          refine bg _ ex3 ?_
          revert h4' h5'
          cases m.st <;> simp
    · have h2 : ¬ (cs z).getD m.pos 0 = 32 := by rw [sp1, one_eq] at h2; exact h2
      have hn2 : ¬ ((cs z).getD m.pos 0 = 32 ∧ m.st = .s2) := fun q => h2 q.1
      refine ⟨by decide, fun p hp => ⟨_, .inr (SqT.of upd_same), rfl, rfl, ?_⟩⟩
      have ex3 : Ex H1 (upd H1 p (HO.tup [V.str (Str.ofString "behind"), V.str (Str.ofString "end")])) := ex2.trans (Ex.new hp)
      refine ite2 (fun h4 => ?_) (fun h4 => ?_)
      · have h4' : m.st = .s2 ∨ m.st = .s4 := by revert h4; cases m.st <;> decide +kernel
        exact none_ (stepN hn1 hn2 (.inl h4')) _ ex3
      · have h4' : ¬ (m.st = .s2 ∨ m.st = .s4) := by revert h4; cases m.st <;> decide +kernel
        refine ⟨rfl, ite2 (fun h5 => ?_) (fun h5 => ?_)⟩
        · have h5' : m.st = .s0 := by revert h5; cases m.st <;> decide +kernel
          refine ite2 (fun h6 => ?_) (fun h6 => ?_)
          · rw [op1, one_eq] at h6
            exact none_ (stepN hn1 hn2 (.inr ⟨h5', h6⟩)) _ ex3
          · have h6 : (cs z).getD m.pos 0 = 40 := Decidable.byContradiction fun q => h6 (by rw [op1, one_eq]; exact q)
            exact bg _ ex3 (.inr (.inr ⟨h5', h6⟩))
        · have h5' : ¬ m.st = .s0 := by revert h5; cases m.st <;> decide +kernel
          refine bg _ ex3 ?_
          revert h4' h5'
          cases m.st <;> simp
end
end K21

set_option Elab.async false
set_option linter.all false
set_option maxRecDepth 100000
set_option maxHeartbeats 4000000
namespace K21
open PySem PySem.Spec PyProof.Rows L2 Ab
local macro_rules | `(tactic| walk_at "rd") => `(tactic| simp only [start_eq, List.map_cons, List.map_nil, List.length_cons, List.length_nil, List.replicate_succ, List.replicate_zero, List.cons_append, List.nil_append, Nat.reduceSub, Nat.reduceAdd, Nat.zero_add,
  tSeq, tAsg, tIf, tTest, tOp, tVar, tCB, tCons, tNil, tC, gName, tRet, tLst, tTup, tIfS, tPar3, tDrop, tB, tAnd, tOr, tNot, tAndV, tOrV, tNotV, tUn, tNext, tNever, gTup, gSub, gCons, gNil, rSetL, tPar, rCat, rRep, rAppend, rAll, rAny, tM1, tBM, tBM0, tDisp, tPairs, rIn, tChain, tPart, tFld, tFmt, tJs, rRepS, tSl, tNoPart, rSlS, tAug, ipI, tDGet, rSetD, tOX, tMkX, rSimE, rSimN, tFor_eq, tLc_eq, iRng1, iRng2, iList, iTup, iStr, rI0, rI, rU, rIxL, rIxT, rIxS, tO, gPos, StX.tMakeR, tDNewK, sFld, ClX.tCVal, rSortedS, rEq, rNe, scal_ii, scal_ss, scal_bb, scal_nn, scal_is, scal_si, cx_K, cx_Kn,
  V.int.injEq, V.ref.injEq, V.str.injEq, V.bl.injEq, List.cons.injEq, Bool.not_eq_true', decide_eq_true_eq, decide_eq_false_iff_not, if_true, if_false, Bool.not_true, Bool.not_false, Bool.false_eq_true, not_true_eq_false, not_false_eq_true, and_assoc, and_true, true_and, exists_eq_left', exists_eq_left, exists_and_left, reduceCtorEq, false_and, and_false, exists_false, or_false, false_or,
  List.getElem?_cons_zero, List.getElem?_cons_succ, Option.some.injEq, List.set_cons_zero, List.set_cons_succ])
local macro_rules | `(tactic| walk_at "rk") => `(tactic| simp only [start_eq, List.map_cons, List.map_nil, List.length_cons, List.length_nil, List.replicate_succ, List.replicate_zero, List.cons_append, List.nil_append, Nat.reduceSub, Nat.reduceAdd, Nat.zero_add,
  tSeq, tAsg, tTest, tOp, tVar, tCB, tCons, tNil, tC, gName, tRet, tLst, tTup, tIfS, tPar3, tDrop, tB, tAnd, tOr, tNot, tNotV, tUn, tNext, tNever, gTup, gSub, gCons, gNil, rSetL, tPar, rCat, rRep, rAppend, rAll, rAny, tM1, tBM, tBM0, tDisp, tPairs, rIn, tChain, tPart, tFld, tFmt, tJs, rRepS, tSl, tNoPart, rSlS, tAug, ipI, tDGet, rSetD, tOX, tMkX, rSimE, rSimN, tFor_eq, tLc_eq, iRng1, iRng2, iList, iTup, iStr, rI0, rI, rU, rIxL, rIxT, rIxS, tO, gPos, StX.tMakeR, tDNewK, sFld, ClX.tCVal, rSortedS, rEq, rNe, scal_ii, scal_ss, scal_bb, scal_nn, scal_is, scal_si, cx_K, cx_Kn,
  V.int.injEq, V.ref.injEq, V.str.injEq, V.bl.injEq, List.cons.injEq, Bool.not_eq_true', decide_eq_true_eq, decide_eq_false_iff_not, if_true, if_false, Bool.not_true, Bool.not_false, Bool.false_eq_true, not_true_eq_false, not_false_eq_true, and_assoc, and_true, true_and, exists_eq_left', exists_eq_left, exists_and_left, reduceCtorEq, false_and, and_false, exists_false, or_false, false_or,
  List.getElem?_cons_zero, List.getElem?_cons_succ, Option.some.injEq, List.set_cons_zero, List.set_cons_succ])
def spStr (B : Nat) : Sp := fun vs H Q _ => ∃ r : Addr, vs = [.ref r] ∧ Rng r H ∧ ∀ (z : Str) (H' : Hp), (cs z).length ≤ B → Dr r H H' → Q (.str z) H'
def Bd (d : Nat) : Nat := 50 * 5 ^ d
def spAt (B : Nat) (d : Nat) : Sp := fun vs H Q _ => ∃ r : Addr, vs = [.ref r, .int d] ∧ 1 ≤ d ∧ d ≤ 5 ∧ Rng r H ∧ ∀ (z : Str) (H' : Hp), (cs z).length ≤ B → Dr r H H' → Q (.str z) H'
section
variable {P : Program} {w : World} {K : PySem.W.Frag} {mg : Str → Option Value} {base : Heap}
theorem ok_law_word (T : Txt P K mg) : Fo false P w K mg base CX0 3 d_law_word ["_law_rng_here"] (spStr 3) := by
  obtain ⟨fd, F⟩ := T.dfn 8 (d := d_law_word)
  refine ⟨fd, Fq.mk' F sc_law_word (fun vs H Q E h => ?_) (fun cdv A outer s H vs Q E hg hr h => ?_), F⟩
  · obtain ⟨r, rfl, _⟩ := h
    rfl
  obtain ⟨r, rfl, hR, hQ⟩ := h
  refine ⟨_, (PSs.nox (pss_cons (ps_set (i := 1) sc_law_word.nd rfl (Or.inr rfl) pe_str)
      (pss_one (ps_ret (pe_join pe_str (pe_lc (own := [("_law_k", 2)]) rfl sc_law_word.nd (pi_range1 rfl (T.free 38) (pa_cons (pe_op op_add pe_int (pe_o (ok_law_draw T) (T.glo 22) (b_law_draw) gd_false (hr.mono (by omega)) rfl pass0 (pa_cons (pv 0) (pa_cons pe_int pa_nil)))) pa_nil)) (blkOk_by (own := [("_law_k", 2)]) (N := N_law_word) (sc := defScope s_law_word) (by decide +kernel)) (fun _ _ _ _ _ => (pg_name (i := 2) sc_law_word.nd rfl (Or.inl rfl))) (fun _ _ _ _ _ => pts_nil) (fun _ _ _ _ _ => (pe_o (ok_law_choiceS T) (T.glo 23) (b_law_choice) gd_false (hr.mono (by omega)) rfl pass0 (pa_cons (pv 0) (pa_cons (pv 1) pa_nil)))))))))), ?_⟩
  walk_at "rd"
  refine ⟨⟨_, rfl⟩, drawN hR (by decide) (by decide) fun n H1 hn d1 => ⟨_, rfl, by omega, by omega, ?_⟩⟩
  refine lc_dr walk_range d1.rg (fun _ _ => trivial) (by omega) (fun _ _ _ y => ∃ z : Str, y = .str z ∧ (cs z).length ≤ 1) (fun _ _ _ _ _ _ e => e) ?_ ?_
  · rintro D i x H2 H3 hi hD hD2 d ⟨rfl, rfl⟩ Qn k
    walk_at "rd"
    refine ⟨rfl, _, rfl, _, rfl, r, _, rfl, d.rg, by decide +kernel, by decide +kernel, fun c H4 _ d4 => k _ _ d4 ⟨_, rfl, Nat.le_refl _⟩⟩
  · intro D ys H2 hD d hy hl he
    obtain ⟨zs, rfl, hz⟩ := strs_of fun i y q => he i y q
    rw [List.length_map] at hl
    have h1 := sum_le hz
    have h2 := join_len (Str.ofString "") zs hz
    have e : (Str.ofString "").length = 0 := by decide +kernel
    have e2 : (cs (Str.ofString "")).length = 0 := by decide +kernel
    refine ⟨D, rfl, zs, Or.inl (SqL.of hy), ?_, hQ _ _ ?_ (d1.trans d)⟩
    · rw [e]
      omega
    · rw [e2] at h2
      omega
theorem ok_law_part (T : Txt P K mg) (d k : Nat) (hk : 3 ≤ k) (ok_law_text : Txt P K mg → Fo false P w K mg base CX0 k d_law_text ["_law_rng_here", "_law_depth"] (spAt (Bd (d - 1)) (d - 1))) : Fo false P w K mg base CX0 (k + 1) d_law_part ["_law_rng_here", "_law_depth"] (spAt (Bd (d - 1)) d) := by
  obtain ⟨fd, F⟩ := T.dfn 9 (d := d_law_part)
  refine ⟨fd, Fq.mk' F sc_law_part (fun vs H Q E h => ?_) (fun cdv A outer s H vs Q E hg hr h => ?_), F⟩
  · obtain ⟨r, rfl, _⟩ := h
    rfl
  obtain ⟨r, rfl, hd1, hd2, hR, hQ⟩ := h
  refine ⟨_, (PSs.nox (pss_cons (ps_set (i := 2) sc_law_part.nd rfl (Or.inl rfl) (pe_o (ok_law_draw T) (T.glo 22) (b_law_draw) gd_false (hr.mono (by omega)) rfl pass0 (pa_cons (pv 0) (pa_cons pe_int pa_nil))))
      (pss_cons (ps_if (pt_cmpR op_eq (pv 2) pe_int (nomark _)) (pss_one (ps_ret (pe_o (ok_law_word T) (T.glo 24) (b_law_word) gd_false (hr.mono (by omega)) rfl pass0 (pa_cons (pv 0) pa_nil)))) pss_nil)
      (pss_cons (ps_if (pt_cmpR op_eq (pv 2) pe_int (nomark _)) (pss_one (ps_ret (pe_op op_add_str (pe_op op_add_str pe_str (pe_o (ok_law_choice T) (T.glo 23) (b_law_choice) gd_false (hr.mono (by omega)) rfl pass0 (pa_cons (pv 0) (pa_cons (pe_lst (pa_cons pe_str (pa_cons pe_str (pa_cons pe_str (pa_cons pe_str (pa_cons pe_str (pa_cons pe_str (pa_cons pe_str (pa_cons pe_str pa_nil))))))))) pa_nil)))) pe_str))) pss_nil)
      (pss_cons (ps_if (PW.pt (pw_and (pt_cmpR op_eq (pv 2) pe_int (nomark _)) (pw_and1 (pt_cmpR op_gt (pv 1) pe_int (nomark _))))) (pss_one (ps_ret (pe_o (ok_law_text T) (T.glo 26) (b_law_text) gd_false (hr.mono (by omega)) rfl pass0 (pa_cons (pv 0) (pa_cons (pe_op op_sub (pv 1) pe_int) pa_nil))))) pss_nil)
      (pss_one (ps_ret (pe_o (ok_law_choice T) (T.glo 23) (b_law_choice) gd_false (hr.mono (by omega)) rfl pass0 (pa_cons (pv 0) (pa_cons (pe_lst (pa_cons pe_str (pa_cons pe_str (pa_cons pe_str (pa_cons pe_str (pa_cons pe_str (pa_cons pe_str (pa_cons pe_str (pa_cons pe_str (pa_cons pe_str (pa_cons pe_str pa_nil))))))))))) pa_nil)))))))))), ?_⟩
  walk_at "rd"
  have hB : 50 ≤ Bd (d - 1) := by
    unfold Bd
    have := Nat.pow_pos (n := d - 1) (show 0 < 5 by decide)
    omega
  have last : ∀ H1, Dr r H H1 → ∀ p, H1 p = none → spChoice K [V.ref r, V.ref p] (upd H1 p (HO.lst [V.str (Str.ofString "a"), V.str (Str.ofString "add"), V.str (Str.ofString "ward:-"), V.str (Str.ofString "bed:a+b"), V.str (Str.ofString "-12"), V.str (Str.ofString "a.b"), V.str (Str.ofString "0"), V.str (Str.ofString "select"), V.str (Str.ofString "x=y"), V.str (Str.ofString "007")])) Q E0 :=
    fun H1 d1 p hp => chooseS 7 d1.rg hp (by decide +kernel) nofun (by decide) fun z H2 hz d2 => hQ _ _ (by omega) (d1.trans d2)
  refine drawN hR (by decide) (by decide) fun n H1 hn d1 => ⟨rfl, ite2 (fun _ => ?_) (fun _ => ⟨rfl, ite2 (fun _ => ?_) (fun _ => ⟨rfl, ite2 (fun _ => ite2 (fun h => ?_) (fun _ => ?_)) (fun _ => ?_)⟩)⟩)⟩
  · exact ⟨r, rfl, d1.rg, fun z H2 hz d2 => hQ _ _ (by omega) (d1.trans d2)⟩
  · refine ⟨by decide, fun p hp => chooseS 4 d1.rg hp (by decide +kernel) nofun (by decide) fun z H2 hz d2 => ⟨_, rfl, ?_, ?_, hQ _ _ ?_ (d1.trans d2)⟩⟩
    all_goals have e1 : (Str.ofString "'").length = 1 := by decide +kernel
    all_goals have lz := cs_len z
    · exact Nat.le_trans (show _ ≤ 100 by omega) (by decide)
    · rw [strLen_append]
      exact Nat.le_trans (show _ ≤ 100 by omega) (by decide)
    · rw [cs_app_len, cs_app_len, ← cs_len (Str.ofString "'")]
      omega
  · refine ⟨r, ?_, by omega, by omega, d1.rg, fun z H2 hz d2 => hQ _ _ hz (d1.trans d2)⟩
    rw [show (d : Int) - 1 = ((d - 1 : Nat) : Int) by omega]
  · exact ⟨by decide, last H1 d1⟩
  · exact ⟨by decide, last H1 d1⟩
theorem ok_law_text' (T : Txt P K mg) (d k : Nat) (hk : 3 ≤ k) (ok_law_part : Txt P K mg → Fo false P w K mg base CX0 k d_law_part ["_law_rng_here", "_law_depth"] (spAt (Bd (d - 1)) d)) : Fo false P w K mg base CX0 (k + 1) d_law_text ["_law_rng_here", "_law_depth"] (spAt (Bd d) d) := by
  obtain ⟨fd, F⟩ := T.dfn 10 (d := d_law_text)
  refine ⟨fd, Fq.mk' F sc_law_text (fun vs H Q E h => ?_) (fun cdv A outer s H vs Q E hg hr h => ?_), F⟩
  · obtain ⟨r, rfl, _⟩ := h
    rfl
  obtain ⟨r, rfl, hd1, hd2, hR, hQ⟩ := h
  refine ⟨_, (PSs.nox (pss_one (ps_ret (pe_op op_add_str (pe_op op_add_str pe_str (pe_join pe_str (pe_lc (own := [("_law_k", 2)]) rfl sc_law_text.nd (pi_range1 rfl (T.free 38) (pa_cons (pe_o (ok_law_draw T) (T.glo 22) (b_law_draw) gd_false (hr.mono (by omega)) rfl pass0 (pa_cons (pv 0) (pa_cons pe_int pa_nil))) pa_nil)) (blkOk_by (own := [("_law_k", 2)]) (N := N_law_text) (sc := defScope s_law_text) (by decide +kernel)) (fun _ _ _ _ _ => (pg_name (i := 2) sc_law_text.nd rfl (Or.inl rfl))) (fun _ _ _ _ _ => pts_nil) (fun _ _ _ _ _ => (pe_o (ok_law_part T) (T.glo 25) (b_law_part) gd_false (hr.mono (by omega)) rfl pass0 (pa_cons (pv 0) (pa_cons (pv 1) pa_nil))))))) pe_str)))), ?_⟩
  walk_at "rd"
  have hB : 50 ≤ Bd (d - 1) ∧ Bd (d - 1) * 5 = Bd d ∧ Bd (d - 1) ≤ 2000000 := by
    unfold Bd
    have h1 := Nat.pow_pos (n := d - 1) (show 0 < 5 by decide)
    have h2 : 5 ^ (d - 1) * 5 = 5 ^ d := by rw [← Nat.pow_succ]; congr 1; omega
    have h3 : 5 ^ (d - 1) ≤ 5 ^ 5 := Nat.pow_le_pow_right (by decide) (by omega)
    omega
  refine ⟨⟨_, rfl⟩, drawN hR (by decide) (by decide) fun n H1 hn d1 => ⟨_, rfl, by omega, by omega, ?_⟩⟩
  refine lc_dr walk_range d1.rg (fun _ _ => trivial) (by omega) (fun _ _ _ y => ∃ z : Str, y = .str z ∧ (cs z).length ≤ Bd (d - 1)) (fun _ _ _ _ _ _ e => e) ?_ ?_
  · rintro D i x H2 H3 hi hD hD2 d' ⟨rfl, rfl⟩ Qn k
    walk_at "rd"
    exact ⟨rfl, _, rfl, _, rfl, r, rfl, hd1, hd2, d'.rg, fun z H4 hz d4 => k _ _ d4 ⟨z, rfl, hz⟩⟩
  · intro D ys H2 hD d' hy hl he
    obtain ⟨zs, rfl, hz⟩ := strs_of fun i y q => he i y q
    rw [List.length_map] at hl
    have h1 := sum_le hz
    have h2 := join_len (Str.ofString " ") zs hz
    have e : (Str.ofString " ").length = 1 := by decide +kernel
    have e2 : (cs (Str.ofString " ")).length = 1 := by decide +kernel
    have e3 : (Str.ofString "(").length = 1 := by decide +kernel
    have e4 : (Str.ofString ")").length = 1 := by decide +kernel
    have hl4 : zs.length ≤ 4 := by omega
    have h3 : zs.length * Bd (d - 1) ≤ 4 * Bd (d - 1) := Nat.mul_le_mul_right _ hl4
    rw [e2, Nat.mul_add] at h2
    have lj := cs_len (Txt.join (Str.ofString " ") zs)
    refine ⟨D, rfl, zs, Or.inl (SqL.of hy), ?_, ?_, ?_, hQ _ _ ?_ (d1.trans d')⟩
    · rw [e]
      omega
    · exact Nat.le_trans (show _ ≤ 10000000 by omega) (by decide)
    · rw [strLen_append]
      exact Nat.le_trans (show _ ≤ 10000000 by omega) (by decide)
    · rw [cs_app_len, cs_app_len, ← cs_len (Str.ofString "("), ← cs_len (Str.ofString ")")]
      omega
def spDeep : Sp := fun vs H Q _ => ∃ (r : Addr) (d : Nat), vs = [.ref r, .int d] ∧ 1 ≤ d ∧ d ≤ 16 ∧ Rng r H ∧ ∀ (z : Str) (H' : Hp), (cs z).length ≤ 1000 → Dr r H H' → Q (.str z) H'
theorem ok_law_deep (T : Txt P K mg) : Fo false P w K mg base CX0 3 d_law_deep ["_law_rng_here", "_law_depth"] spDeep := by
  obtain ⟨fd, F⟩ := T.dfn 11 (d := d_law_deep)
  refine ⟨fd, Fq.mk' F sc_law_deep (fun vs H Q E h => ?_) (fun cdv A outer s H vs Q E hg hr h => ?_), F⟩
  · obtain ⟨r, d, rfl, _⟩ := h
    rfl
  obtain ⟨r, d, rfl, hd1, hd2, hR, hQ⟩ := h
  refine ⟨_, (PSs.nox (pss_cons (ps_set (i := 2) sc_law_deep.nd rfl (Or.inl rfl) (pe_o (ok_law_choice T) (T.glo 23) (b_law_choice) gd_false (hr.mono (by omega)) rfl pass0 (pa_cons (pv 0) (pa_cons (pe_lst (pa_cons pe_str (pa_cons pe_str (pa_cons pe_str (pa_cons pe_str pa_nil))))) pa_nil))))
      (pss_one (ps_ret (pe_op op_add_str (pe_op op_add_str (pe_op op_add_str (pe_op Ab.op_repS (pe_op op_add_str pe_str (pv 2)) (pe_op op_sub (pv 1) pe_int)) pe_str) (pe_o (ok_law_choice T) (T.glo 23) (b_law_choice) gd_false (hr.mono (by omega)) rfl pass0 (pa_cons (pv 0) (pa_cons (pe_lst (pa_cons pe_str (pa_cons pe_str (pa_cons pe_str pa_nil)))) pa_nil)))) (pe_op Ab.op_repS pe_str (pv 1))))))), ?_⟩
  walk_at "rd"
  have e3 : (cs (Str.ofString "(")).length = 1 := by decide +kernel
  have e4 : (cs (Str.ofString ")")).length = 1 := by decide +kernel
  refine ⟨by decide, fun p hp => chooseS 4 hR hp (by decide +kernel) nofun (by decide) fun z H1 hz d1 => ⟨_, rfl, ?_, by omega, by omega, ?_, ?_, by decide, fun p' hp' => chooseS 3 d1.rg hp' (by decide +kernel) nofun (by decide) fun y H2 hy d2 => ⟨_, rfl, ?_, by omega, by omega, ?_, ?_, hQ _ _ ?_ (d1.trans d2)⟩⟩⟩
  all_goals have m1 : 5 * ((d : Int) - 1).toNat ≤ 100 := by omega
  all_goals have m2 : (cs (Str.ofString "(" ++ z)).length * ((d : Int) - 1).toNat ≤ 5 * ((d : Int) - 1).toNat := Nat.mul_le_mul_right _ (by rw [cs_app_len]; omega)
  all_goals have m3 : (cs (repS (Str.ofString "(" ++ z) ((d : Int) - 1).toNat)).length ≤ 100 := by rw [repS_len, Nat.mul_comm]; exact Nat.le_trans m2 m1
  all_goals have m4 : (cs (repS (Str.ofString ")") (d : Int).toNat)).length ≤ 16 := by rw [repS_len]; show _ * (cs (Str.ofString ")")).length ≤ _; rw [e4]; omega
  · rw [cs_len, cs_len]; exact Nat.le_trans (show _ ≤ 100 by omega) (by decide)
  · exact Nat.le_trans (Nat.le_trans m2 m1) (by decide)
  · rw [cs_len, cs_len]; exact Nat.le_trans (show _ ≤ 200 by omega) (by decide)
  · rw [cs_len, cs_len, cs_app_len]; exact Nat.le_trans (show _ ≤ 200 by omega) (by decide)
  · show (cs (Str.ofString ")")).length * _ ≤ _
    rw [e4]; omega
  · rw [cs_len, cs_len, cs_app_len, cs_app_len]; exact Nat.le_trans (show _ ≤ 200 by omega) (by decide)
  · rw [cs_app_len, cs_app_len, cs_app_len]; omega
def spBent : Sp := fun vs H Q _ => ∃ (r : Addr) (z : Str), vs = [.ref r, .str z] ∧ (cs z).length ≤ 40000 ∧ Rng r H ∧ ∀ (z : Str) (H' : Hp), (cs z).length ≤ 40010 → Dr r H H' → Q (.str z) H'
theorem ok_law_bent (T : Txt P K mg) : Fo false P w K mg base CX0 3 d_law_bent ["_law_rng_here", "_law_line"] spBent := by
  obtain ⟨fd, F⟩ := T.dfn 12 (d := d_law_bent)
  refine ⟨fd, Fq.mk' F sc_law_bent (fun vs H Q E h => ?_) (fun cdv A outer s H vs Q E hg hr h => ?_), F⟩
  · obtain ⟨r, z, rfl, _⟩ := h
    rfl
  obtain ⟨r, z, rfl, hz, hR, hQ⟩ := h
  refine ⟨_, (PSs.nox (pss_cons (ps_for PassesOwn.never rfl (pi_range1 rfl (T.free 38) (pa_cons (pe_o (ok_law_choice T) (T.glo 23) (b_law_choice) gd_false (hr.mono (by omega)) rfl pass0 (pa_cons (pv 0) (pa_cons (pe_lst (pa_cons pe_int (pa_cons pe_int (pa_cons pe_int (pa_cons pe_int (pa_cons pe_int pa_nil)))))) pa_nil))) pa_nil)) (pg_name (i := 2) sc_law_bent.nd rfl (Or.inl rfl)) (pss_cons (ps_par3 (i := 3) (j := 4) (l := 5) (by rfl) sc_law_bent.nd rfl rfl rfl (by decide) (by decide) (by decide) rfl rfl rfl (pa_cons (pe_o (ok_law_draw T) (T.glo 22) (b_law_draw) gd_false (hr.mono (by omega)) rfl pass0 (pa_cons (pv 0) (pa_cons (pe_op op_add (pe_callB call_len_str rfl (T.free 39) (by decide +kernel) (pa_cons (pv 1) pa_nil)) pe_int) pa_nil))) (pa_cons (pe_o (ok_law_draw T) (T.glo 22) (b_law_draw) gd_false (hr.mono (by omega)) rfl pass0 (pa_cons (pv 0) (pa_cons pe_int pa_nil))) (pa_cons (pe_o (ok_law_choiceS T) (T.glo 23) (b_law_choice) gd_false (hr.mono (by omega)) rfl pass0 (pa_cons (pv 0) (pa_cons pe_str pa_nil))) pa_nil))) (by rfl))
      (pss_one (ps_if (pt_cmpR op_eq (pv 4) pe_int (nomark _)) (pss_one (ps_set (i := 1) sc_law_bent.nd rfl (Or.inl rfl) (pe_op op_add_str (pe_op op_add_str (pe_slice sl_str (pv 1) po_none (po_some (pv 3))) (pv 5)) (pe_slice sl_str (pv 1) (po_some (pv 3)) po_none)))) (pss_one (ps_set (i := 1) sc_law_bent.nd rfl (Or.inl rfl) (pe_op op_add_str (pe_op op_add_str (pe_slice sl_str (pv 1) po_none (po_some (pv 3))) (pe_ix ix_list (pe_lst (pa_cons pe_str (pa_cons (pv 5) pa_nil))) (pe_op op_sub (pv 4) pe_int) (fun _ _ => rfl))) (pe_slice sl_str (pv 1) (po_some (pe_op op_add (pv 3) pe_int)) po_none))))))))
      (pss_one (ps_ret (pv 1))))), ?_⟩
  walk_at "rd"
  refine ⟨by decide, fun p hp => chooseI 0 3 hR hp (by decide +kernel) nofun (by decide) fun j H1 j0 j1 d1 => ⟨_, rfl, by omega, by omega, ?_⟩⟩
  refine for_f walk_range (fun i σ H' => ∃ (y : Str) (a b c d : Option V), σ = [some (.ref r), some (.str y), a, b, c, d] ∧ (cs y).length ≤ 40000 + i ∧ Dr r H H') ⟨z, _, _, _, _, rfl, hz, d1⟩ (fun _ _ _ _ _ => trivial) ?_ ?_
  rotate_left
  · rintro σ H2 ⟨y, a, b, c, d, rfl, hy, d2⟩
    walk_at "rd"
    exact hQ _ _ (by omega) d2
  rintro i x σ H2 H3 hi ⟨y, a, b, c, d, rfl, hy, d2⟩ ⟨rfl, rfl⟩
  walk_at "rd"
  have ly := cs_len y
  have hyl : y.length ≤ sizeLine := Nat.le_trans (show y.length ≤ 1000000 by omega) (by decide)
  refine ⟨hyl, drawN d2.rg (by omega) (by omega) fun at_ H4 hat d4 => drawN d4.rg (by decide) (by decide) fun way H5 hway d5 => ⟨r, _, rfl, d5.rg, by decide +kernel, by decide +kernel, fun c H6 _ d6 => ?_⟩⟩
  have D6 := (d2.trans d4).trans (d5.trans d6)
  have c1 := cut_two y at_ at_ (Nat.le_refl _)
  have c2 := cut_two y at_ (at_ + 1) (by omega)
  have l1 : (⟨#[c]⟩ : Str).length = 1 := rfl
  have l2 : (cs (⟨#[c]⟩ : Str)).length = 1 := rfl
  refine ⟨rfl, ite2 (fun h => ?_) (fun h => ?_)⟩
  · refine ⟨_, rfl, hyl, _, rfl, ?_, _, rfl, hyl, ?_, ?_, D6⟩
    · rw [cs_len, l1]; exact Nat.le_trans (show _ ≤ 1000000 by omega) (by decide)
    · rw [cs_len, cs_len, cs_app_len, l2]; exact Nat.le_trans (show _ ≤ 1000000 by omega) (by decide)
    · rw [cs_app_len, cs_app_len, l2]; omega
  · have h : ¬ (way : Int) = 0 := by simpa using h
    have pick : ∃ u : Str, (cs u).length ≤ 1 ∧ atI [V.str (Str.ofString ""), V.str ⟨#[c]⟩] ((way : Int) - 1) = some (.str u) := by
      have : way = 1 ∨ way = 2 := by omega
      rcases this with q | q
      · exact ⟨Str.ofString "", by decide +kernel, by rw [q]; rfl⟩
      · exact ⟨⟨#[c]⟩, Nat.le_refl _, by rw [q]; rfl⟩
    obtain ⟨u, hu, pu⟩ := pick
    have e2 : (cs (cutS y (some ((at_ : Int) + 1)) none)).length = (cs (cutS y (some ((at_ + 1 : Nat) : Int)) none)).length := rfl
    refine ⟨_, rfl, hyl, by decide, fun p hp => ⟨_, rfl, _, SqL.of upd_same, _, pu, _, rfl, ?_, _, rfl, hyl, ?_, ?_, D6.ex (Ex.new hp)⟩⟩
    · rw [cs_len, cs_len]; exact Nat.le_trans (show _ ≤ 1000000 by omega) (by decide)
    · rw [cs_len, cs_len, cs_app_len, e2]; exact Nat.le_trans (show _ ≤ 1000000 by omega) (by decide)
    · rw [cs_app_len, cs_app_len, e2]; omega
/-- a text of any depth -/
theorem text_all (T : Txt P K mg) : ∀ d : Nat, Fo false P w K mg base CX0 (2 * d + 3) d_law_text ["_law_rng_here", "_law_depth"] (spAt (Bd d) d)
  | 0 => by
    obtain ⟨fd, F⟩ := T.dfn 10 (d := d_law_text)
    exact ⟨fd, ⟨fun vs H Q E ⟨r, _, h, _⟩ => absurd h (by decide), fun A outer s H args us vs Q E _ _ _ _ _ ⟨r, _, h, _⟩ => absurd h (by decide)⟩, F⟩
  | d + 1 => ok_law_text' T (d + 1) (2 * d + 4) (by omega) fun T => ok_law_part T (d + 1) (2 * d + 3) (by omega) fun T => text_all T d
def spText : Sp := fun vs H Q _ => ∃ (r : Addr) (d : Nat), vs = [.ref r, .int d] ∧ 1 ≤ d ∧ d ≤ 4 ∧ Rng r H ∧ ∀ (z : Str) (H' : Hp), (cs z).length ≤ 31250 → Dr r H H' → Q (.str z) H'
theorem ok_law_text (T : Txt P K mg) : Fo false P w K mg base CX0 11 d_law_text ["_law_rng_here", "_law_depth"] spText := by
  obtain ⟨fd, _, F⟩ := text_all (P := P) (w := w) (base := base) T 0
  have all : ∀ d, d ≤ 4 → Fq false P w K mg base CX0 11 (He.fAd K d_law_text.at_) fd ["_law_rng_here", "_law_depth"] (spAt (Bd d) d) := fun d hd => by
    obtain ⟨fd', G, F'⟩ := text_all (P := P) (w := w) (base := base) T d
    have e := fd_eq F F'
    subst e
    exact ⟨G.len, fun A outer s H args us vs Q E hg hr => G.go A outer s H args us vs Q E hg (hr.mono (by omega))⟩
  refine ⟨fd, ⟨fun vs H Q E ⟨r, d, h, _⟩ => by rw [h]; rfl, fun A outer s H args us vs Q E hg hr e0 hb rv ⟨r, d, h1, h2, h3, h4, h5⟩ => ?_⟩, F⟩
  refine (all d h3).go A outer s H args us vs Q E hg hr e0 hb rv ⟨r, h1, h2, by omega, h4, fun z H' hz d' => h5 z H' (Nat.le_trans hz ?_) d'⟩
  have : 5 ^ d ≤ 5 ^ 4 := Nat.pow_le_pow_right (by decide) h3
  unfold Bd
  omega
end
end K21

set_option Elab.async false
set_option linter.all false
set_option maxRecDepth 100000
set_option maxHeartbeats 4000000
namespace K21
open PySem PySem.Spec PyProof.Rows L2 Ab
local macro_rules | `(tactic| walk_at "rd") => `(tactic| simp only [start_eq, List.map_cons, List.map_nil, List.length_cons, List.length_nil, List.replicate_succ, List.replicate_zero, List.cons_append, List.nil_append, Nat.reduceSub, Nat.reduceAdd, Nat.zero_add,
  tSeq, tAsg, tIf, tTest, tOp, tVar, tCB, tCons, tNil, tC, gName, tRet, tLst, tTup, tIfS, tPar3, tDrop, tB, tAnd, tOr, tNot, tAndV, tOrV, tNotV, tUn, tNext, tNever, gTup, gSub, gCons, gNil, rSetL, tPar, rCat, rRep, rAppend, rAll, rAny, tM1, tBM, tBM0, tDisp, tPairs, rIn, tChain, tPart, tFld, tFmt, tJs, rRepS, tSl, tNoPart, rSlS, tAug, ipI, tDGet, rSetD, tOX, tMkX, rSimE, rSimN, tFor_eq, tLc_eq, iRng1, iRng2, iList, iTup, iStr, rI0, rI, rU, rIxL, rIxT, rIxS, tO, gPos, StX.tMakeR, tDNewK, sFld, ClX.tCVal, rSortedS, rEq, rNe, scal_ii, scal_ss, scal_bb, scal_nn, scal_is, scal_si, cx_K, cx_Kn,
  V.int.injEq, V.ref.injEq, V.str.injEq, V.bl.injEq, List.cons.injEq, Bool.not_eq_true', decide_eq_true_eq, decide_eq_false_iff_not, if_true, if_false, Bool.not_true, Bool.not_false, Bool.false_eq_true, not_true_eq_false, not_false_eq_true, and_assoc, and_true, true_and, exists_eq_left', exists_eq_left, exists_and_left, reduceCtorEq, false_and, and_false, exists_false, or_false, false_or,
  List.getElem?_cons_zero, List.getElem?_cons_succ, Option.some.injEq, List.set_cons_zero, List.set_cons_succ])
local macro_rules | `(tactic| walk_at "rk") => `(tactic| simp only [start_eq, List.map_cons, List.map_nil, List.length_cons, List.length_nil, List.replicate_succ, List.replicate_zero, List.cons_append, List.nil_append, Nat.reduceSub, Nat.reduceAdd, Nat.zero_add,
  tSeq, tAsg, tTest, tOp, tVar, tCB, tCons, tNil, tC, gName, tRet, tLst, tTup, tIfS, tPar3, tDrop, tB, tAnd, tOr, tNot, tNotV, tUn, tNext, tNever, gTup, gSub, gCons, gNil, rSetL, tPar, rCat, rRep, rAppend, rAll, rAny, tM1, tBM, tBM0, tDisp, tPairs, rIn, tChain, tPart, tFld, tFmt, tJs, rRepS, tSl, tNoPart, rSlS, tAug, ipI, tDGet, rSetD, tOX, tMkX, rSimE, rSimN, tFor_eq, tLc_eq, iRng1, iRng2, iList, iTup, iStr, rI0, rI, rU, rIxL, rIxT, rIxS, tO, gPos, StX.tMakeR, tDNewK, sFld, ClX.tCVal, rSortedS, rEq, rNe, scal_ii, scal_ss, scal_bb, scal_nn, scal_is, scal_si, cx_K, cx_Kn,
  V.int.injEq, V.ref.injEq, V.str.injEq, V.bl.injEq, List.cons.injEq, Bool.not_eq_true', decide_eq_true_eq, decide_eq_false_iff_not, if_true, if_false, Bool.not_true, Bool.not_false, Bool.false_eq_true, not_true_eq_false, not_false_eq_true, and_assoc, and_true, true_and, exists_eq_left', exists_eq_left, exists_and_left, reduceCtorEq, false_and, and_false, exists_false, or_false, false_or,
  List.getElem?_cons_zero, List.getElem?_cons_succ, Option.some.injEq, List.set_cons_zero, List.set_cons_succ])
section
variable {P : Program} {w : World} {K : PySem.W.Frag} {mg : Str → Option Value} {base : Heap}
def spRight : Sp := fun vs H Q _ => ∃ z : Str, vs = [.str z] ∧ (cs z).length ≤ 200000 ∧ ∀ H', Ex H H' → Q (.bl true) H'
theorem ok_law_right (T : Txt P K mg) : Fo false P w K mg base CX0 5 d_law_right ["_law_line"] spRight := by
  obtain ⟨fd, F⟩ := T.dfn 19 (d := d_law_right)
  refine ⟨fd, Fq.mk' F sc_law_right (fun vs H Q E h => ?_) (fun cdv A outer s H vs Q E hg hr h => ?_), F⟩
  · obtain ⟨z, rfl, _⟩ := h
    rfl
  obtain ⟨z, rfl, hz, hQ⟩ := h
  refine ⟨_, (PSs.nox (pss_cons (ps_set (i := 1) sc_law_right.nd rfl (Or.inl rfl) (pe_o (ok_law_scanned T) (T.glo 33) (b_law_scanned) gd_false (hr.mono (by omega)) rfl pass0 (pa_cons (pv 0) pa_nil)))
      (pss_cons (ps_set (i := 2) sc_law_right.nd rfl (Or.inl rfl) (pe_o (ok_law_told T) (T.glo 34) (b_law_told) gd_false (hr.mono (by omega)) rfl pass0 (pa_cons (pv 0) pa_nil)))
      (pss_cons (ps_if (pt_cmpR (op_simN hr.units) (pv 2) (pe_ifExp (pt_cmpR op_isN (pv 1) pe_non (nomark _)) pe_str (pv 1)) (nomark _)) (pss_one (ps_ret pe_bl)) pss_nil)
      (pss_cons (ps_if (pt_cmpR op_notN (pv 1) pe_non (nomark _)) (pss_one (ps_expr (pe_bm PySem.F.plainAttrs_list PySem.F.slot_list_append PySem.F.type_list_append mt_append (pv 2) (pa_cons pe_str pa_nil)))) pss_nil)
      (pss_one (ps_ret (pe_cmpR (op_simE hr.units) (pe_o (ok_law_told T) (T.glo 34) (b_law_told) gd_false (hr.mono (by omega)) rfl pass0 (pa_cons (pv 0) pa_nil)) (pe_ifExp (pt_cmpR op_isN (pv 1) pe_non (nomark _)) pe_str (pv 1)) (nomark _))))))))), ?_⟩
  walk_at "rd"
  refine ⟨z, rfl, hz, fun hr H1 e1 => ?_, fun l hl D H1 hD e1 hd => ?_⟩
  · refine ⟨_, rfl, .inl ⟨z, rfl, hz, fun _ H2 e2 => ?_, fun l hl => by rw [hr] at hl; cases hl⟩⟩
    refine ⟨1, by decide, .inl ⟨rfl, rfl⟩, ?_⟩
    refine ⟨_, rfl, .inl ⟨z, rfl, hz, fun _ H3 e3 => ⟨1, by decide, .inl ⟨rfl, rfl⟩, hQ _ ((e1.trans e2).trans e3)⟩, fun l hl => by rw [hr] at hl; cases hl⟩⟩
  · have fl : ∀ x ∈ l.map toV, flatV x = true := fun x hx => by
      obtain ⟨y, _, rfl⟩ := List.mem_map.mp hx
      rfl
    have hll : l.length < sizeLine := Nat.lt_of_le_of_lt (show l.length ≤ 200000 by have := res_len hl; omega) (by decide)
    refine ⟨_, rfl, .inl ⟨z, rfl, hz, fun hr => (by rw [hl] at hr; cases hr), fun l1 hl1 D1 H2 hD1 e2 hd1 => ?_⟩⟩
    rw [hl] at hl1
    cases hl1
    refine (if_neg nofun).mpr ⟨1, by decide, .flatL (SqL.of hd1) (SqL.of (e2 _ _ hd)) fl, (if_pos nofun).mpr ⟨Or.inl ⟨rfl, _, SqL.of hd1⟩, _, rfl, _, hd1, by rw [List.length_map]; exact hll, _, rfl, .inl ⟨z, rfl, hz, fun hr => (by rw [hl] at hr; cases hr), fun l2 hl2 D2 H3 hD2 e3 hd2 => ?_⟩⟩⟩
    rw [hl] at hl2
    cases hl2
    refine (if_neg nofun).mpr ⟨1, by decide, .flatL (SqL.of hd2) (SqL.of (e3 _ _ ((upd_ne (ne_of_none hd hD1)).trans (e2 _ _ hd)))) fl, hQ _ ?_⟩
    exact Same.trans (Ex.keep (e1.trans e2) (e1.free hD1)) e3
theorem cs_repS (z : Str) (n : Nat) : cs (repS z n) = (List.replicate n (cs z)).flatten := by
  unfold repS
  simp
theorem toV_cs (z : Str) : toV (cs z) = .str z := by
  unfold toV
  simp
theorem far1 : res (List.replicate 1200 [40]).flatten = none := by decide +kernel
theorem far2 : res ((List.replicate 1200 [40]).flatten ++ (List.replicate 1200 [41]).flatten) = none := by decide +kernel
theorem far3 : res ((List.replicate 1200 [40, 97, 32]).flatten ++ [98] ++ (List.replicate 1200 [41]).flatten) = none := by decide +kernel
theorem far4 : res (List.replicate 1200 [41]).flatten = none := by decide +kernel
theorem far5 : res (List.replicate 1200 [40, 97, 32]).flatten = none := by decide +kernel
theorem lit1 : res (cs (Str.ofString "()")) = some [] := by decide +kernel
theorem lit2 : res (cs (Str.ofString "(a (b c) 'd (e')")) = some [cs (Str.ofString "a"), cs (Str.ofString "(b c)"), cs (Str.ofString "'d (e'")] := by decide +kernel
def spLaw (K : PySem.W.Frag) : Sp := fun vs H Q _ => ∃ (a : Addr) (ns : List Int), vs = [.ref a] ∧ SqL K H a (ns.map V.int) ∧ ∀ H', Q (.bl true) H'
theorem ok_law (T : Txt P K mg) : Fo false P w K mg base CX0 12 d_law ["_law_script"] (spLaw K) := by
  obtain ⟨fd, F⟩ := T.dfn 20 (d := d_law)
  refine ⟨fd, Fq.mk' F sc_law (fun vs H Q E h => ?_) (fun cdv A outer s H vs Q E hg hr h => ?_), F⟩
  · obtain ⟨a, ns, rfl, _⟩ := h
    rfl
  obtain ⟨a, ns, rfl, hS, hQ⟩ := h
  refine ⟨_, (PSs.nox (pss_cons (ps_for PassesOwn.never rfl (pi_range1 rfl (T.free 38) (pa_cons (pe_callB (call_max2 rfl) rfl (T.free 43) (by decide +kernel) (pa_cons pe_int (pa_cons (pe_callB (call_min2 rfl) rfl (T.free 46) (by decide +kernel) (pa_cons pe_int (pa_cons (pe_callB call_len_seq rfl (T.free 39) (by decide +kernel) (pa_cons (pv 0) pa_nil)) pa_nil))) pa_nil))) pa_nil)) (pg_name (i := 1) sc_law.nd rfl (Or.inl rfl)) (pss_cons (ps_set (i := 2) sc_law.nd rfl (Or.inl rfl) (pe_o (ok_law_rng T) (T.glo 21) (b_law_rng) gd_false (hr.mono (by omega)) rfl pass0 (pa_cons (pv 0) (pa_cons (pv 1) pa_nil))))
      (pss_cons (ps_set (i := 3) sc_law.nd rfl (Or.inl rfl) (pe_lst (pa_cons (pe_o (ok_law_text T) (T.glo 26) (b_law_text) gd_false (hr.mono (by omega)) rfl pass0 (pa_cons (pv 2) (pa_cons (pe_op op_add pe_int (pe_o (ok_law_draw T) (T.glo 22) (b_law_draw) gd_false (hr.mono (by omega)) rfl pass0 (pa_cons (pv 2) (pa_cons pe_int pa_nil)))) pa_nil))) (pa_cons (pe_o (ok_law_deep T) (T.glo 27) (b_law_deep) gd_false (hr.mono (by omega)) rfl pass0 (pa_cons (pv 2) (pa_cons (pe_op op_add pe_int (pe_o (ok_law_draw T) (T.glo 22) (b_law_draw) gd_false (hr.mono (by omega)) rfl pass0 (pa_cons (pv 2) (pa_cons pe_int pa_nil)))) pa_nil))) pa_nil))))
      (pss_cons (ps_expr (pe_bm PySem.F.plainAttrs_list PySem.F.slot_list_append PySem.F.type_list_append mt_append (pv 3) (pa_cons (pe_o (ok_law_bent T) (T.glo 28) (b_law_bent) gd_false (hr.mono (by omega)) rfl pass0 (pa_cons (pv 2) (pa_cons (pe_ix ix_list (pv 3) (pe_o (ok_law_draw T) (T.glo 22) (b_law_draw) gd_false (hr.mono (by omega)) rfl pass0 (pa_cons (pv 2) (pa_cons pe_int pa_nil))) (fun _ _ => rfl)) pa_nil))) pa_nil)))
      (pss_one (ps_if (pt_not (pt_val (pe_callB (cr_all rfl) rfl (T.free 47) (by decide +kernel) (pa_cons (pe_lc (own := [("_law_line", 6)]) rfl sc_law.nd (pi_list (pv 3)) (blkOk_by (own := [("_law_line", 6)]) (N := N_law) (sc := defScope s_law) (by decide +kernel)) (fun _ _ _ _ _ => (pg_name (i := 6) sc_law.nd rfl (Or.inl rfl))) (fun _ _ _ _ _ => pts_nil) (fun _ _ _ _ _ => (pe_o (ok_law_right T) (T.glo 35) (b_law_right) gd_false (hr.mono (by omega)) rfl pass0 (pa_cons (pv 6) pa_nil)))) pa_nil)))) (pss_one (ps_ret pe_bl)) pss_nil))))))
      (pss_cons (ps_set (i := 4) sc_law.nd rfl (Or.inl rfl) (pe_lst (pa_cons (pe_op Ab.op_repS pe_str pe_int) (pa_cons (pe_op op_add_str (pe_op Ab.op_repS pe_str pe_int) (pe_op Ab.op_repS pe_str pe_int)) (pa_cons (pe_op op_add_str (pe_op op_add_str (pe_op Ab.op_repS pe_str pe_int) pe_str) (pe_op Ab.op_repS pe_str pe_int)) (pa_cons (pe_op Ab.op_repS pe_str pe_int) (pa_cons (pe_op Ab.op_repS pe_str pe_int) pa_nil)))))))
      (pss_cons (ps_set (i := 5) sc_law.nd rfl (Or.inl rfl) (pe_lst (pa_cons pe_non (pa_cons pe_int (pa_cons pe_bl (pa_cons (pe_lst (pa_cons pe_str pa_nil)) (pa_cons (pe_tup (pa_cons pe_str pa_nil)) (pa_cons pe_dnewK pa_nil))))))))
      (pss_cons (ps_if (PW.pt (pw_or (pt_cmpR (op_simN hr.units) (pe_lc (own := [("_law_line", 6)]) rfl sc_law.nd (pi_list (pv 4)) (blkOk_by (own := [("_law_line", 6)]) (N := N_law) (sc := defScope s_law) (by decide +kernel)) (fun _ _ _ _ _ => (pg_name (i := 6) sc_law.nd rfl (Or.inl rfl))) (fun _ _ _ _ _ => pts_nil) (fun _ _ _ _ _ => (pe_o (ok_law_told T) (T.glo 34) (b_law_told) gd_false (hr.mono (by omega)) rfl pass0 (pa_cons (pv 6) pa_nil)))) (pe_op op_rep (pe_lst (pa_cons pe_str pa_nil)) pe_int) (nomark _)) (pw_or1 (pt_cmpR (op_simN hr.units) (pe_lc (own := [("_law_one", 7)]) rfl sc_law.nd (pi_list (pv 5)) (blkOk_by (own := [("_law_one", 7)]) (N := N_law) (sc := defScope s_law) (by decide +kernel)) (fun _ _ _ _ _ => (pg_name (i := 7) sc_law.nd rfl (Or.inl rfl))) (fun _ _ _ _ _ => pts_nil) (fun _ _ _ _ _ => (pe_o (ok_law_told T) (T.glo 34) (b_law_told) gd_false (hr.mono (by omega)) rfl pass0 (pa_cons (pv 7) pa_nil)))) (pe_op op_rep (pe_lst (pa_cons pe_str pa_nil)) pe_int) (nomark _))))) (pss_one (ps_ret pe_bl)) pss_nil)
      (pss_one (ps_ret (pe_cmpR (op_simE hr.units) (pe_lst (pa_cons (pe_oX (ok_parts_of T) (T.glo 20) (b_parts_of) gd_false (hr.mono (by omega)) rfl Ab.takes_no (pa_cons pe_str pa_nil)) (pa_cons (pe_oX (ok_parts_of T) (T.glo 20) (b_parts_of) gd_false (hr.mono (by omega)) rfl Ab.takes_no (pa_cons pe_str pa_nil)) pa_nil))) (pe_lst (pa_cons (pe_lst pa_nil) (pa_cons (pe_lst (pa_cons pe_str (pa_cons pe_str (pa_cons pe_str pa_nil)))) pa_nil))) (nomark _))))))))), ?_⟩
  walk_at "rd"
  refine ⟨_, .inl hS, ?_⟩
  generalize hm : (if (if ((List.map V.int ns).length : Int) < 8 then ((List.map V.int ns).length : Int) else (8 : Int)) > 1 then if ((List.map V.int ns).length : Int) < 8 then ((List.map V.int ns).length : Int) else (8 : Int) else 1) = m
  have m0 : 0 ≤ m ∧ m ≤ 8 := by
    rw [← hm]
    split <;> split <;> omega
  refine ⟨by omega, by omega, ?_⟩
  refine for_f walk_range (fun i σ H' => ∃ a1 a2 a3 a4 a5 a6 a7, σ = [some (.ref a), a1, a2, a3, a4, a5, a6, a7] ∧ Ex H H') ⟨_, _, _, _, _, _, _, rfl, Same.refl _⟩ (fun _ _ _ _ _ => trivial) ?_ ?_
  · rintro i x σ H1 H2 hi ⟨a1, a2, a3, a4, a5, a6, a7, rfl, ex⟩ ⟨rfl, rfl⟩
    walk_at "rd"
    refine ⟨a, ns, _, rfl, ex_seqL ex hS, by omega, by omega, fun r H3 hr e3 hR => ?_⟩
    have out : ∀ {H4 : Hp}, Dr r H3 H4 → Ex H H4 := fun d b o q => d.get (ne_of_none (ex _ _ q) hr) (e3 _ _ (ex _ _ q))
    refine drawN hR (by decide) (by decide) fun n1 H4 h4 d4 => ⟨_, rfl, r, n1 + 1, ?_, by omega, by omega, d4.rg, fun z1 H5 hz1 d5 => drawN d5.rg (by decide) (by decide) fun n2 H6 h6 d6 => ⟨_, rfl, r, n2 + 1, ?_, by omega, by omega, d6.rg, fun z2 H7 hz2 d7 => ⟨by decide, fun p hp => ?_⟩⟩⟩
    · rw [show (1 : Int) + n1 = ((n1 + 1 : Nat) : Int) by omega]
    · rw [show (1 : Int) + n2 = ((n2 + 1 : Nat) : Int) by omega]
    have D7 := ((d4.trans d5).trans d6).trans d7
    have d8 : Dr r H3 (upd H7 p (HO.lst [V.str z1, V.str z2])) := D7.ex (Ex.new hp)
    have pr : p ≠ r := D7.rg.ne hp
    have hp8 : upd H7 p (HO.lst [V.str z1, V.str z2]) p = some (.lst [V.str z1, V.str z2]) := upd_same
    have hpH : H p = none := (out D7).free hp
    generalize upd H7 p (HO.lst [V.str z1, V.str z2]) = H8 at d8 hp8 ⊢
    refine ⟨Or.inl ⟨rfl, _, SqL.of hp8⟩, drawN d8.rg (by decide) (by decide) fun n3 H9 h9 d9 => ?_⟩
    have hp9 := d9.get pr hp8
    have pick : ∃ z : Str, (cs z).length ≤ 40000 ∧ atI [V.str z1, V.str z2] (n3 : Int) = some (.str z) := by
      have : n3 = 0 ∨ n3 = 1 := by omega
      rcases this with q | q
      · exact ⟨z1, by omega, by rw [q]; rfl⟩
      · exact ⟨z2, by omega, by rw [q]; rfl⟩
    obtain ⟨z3, hz3, pz⟩ := pick
    refine ⟨_, _, rfl, SqL.of hp9, _, pz, r, z3, rfl, hz3, d9.rg, fun z4 H10 hz4 d10 => ⟨_, d10.get pr hp9, (show 2 < sizeLine by decide), ⟨_, SqL.of upd_same⟩, ?_⟩⟩
    have ex11 : Ex H (upd H10 p (HO.lst ([V.str z1, V.str z2] ++ [V.str z4]))) := Ex.keep (out (((d8).trans d9).trans d10)) hpH
    have hp11 : upd H10 p (HO.lst ([V.str z1, V.str z2] ++ [V.str z4])) p = some (.lst [V.str z1, V.str z2, V.str z4]) := upd_same
    generalize upd H10 p (HO.lst ([V.str z1, V.str z2] ++ [V.str z4])) = H11 at ex11 hp11 ⊢
    refine lc_val (walk_list (xs := [V.str z1, V.str z2, V.str z4])) (fun H' e => SqL.of (e _ _ hp11)) (show 3 ≤ 100000 by decide) (fun _ => .bl true) ?_ ?_
    · rintro j x H12 H13 hj e12 ⟨rfl, hx⟩ Qn k
      walk_at "rd"
      have hxs : ∃ z : Str, x = .str z ∧ (cs z).length ≤ 200000 := by
        match j, hx with
        | 0, hx => cases hx; exact ⟨_, rfl, by omega⟩
        | 1, hx => cases hx; exact ⟨_, rfl, by omega⟩
        | 2, hx => cases hx; exact ⟨_, rfl, by omega⟩
      obtain ⟨z, rfl, hz⟩ := hxs
      exact ⟨rfl, _, rfl, z, rfl, hz, fun H' e => k _ e⟩
    · intro D H12 hD e12 hD12
      refine ⟨D, rfl, [true, true, true], SqL.of hD12, ?_⟩
      rw [if_neg (by decide)]
      exact ex11.trans e12
  · rintro σ H1 ⟨a1, a2, a3, a4, a5, a6, a7, rfl, ex⟩
    walk_at "rd"
    have c1 : cs (Str.ofString "(") = [40] := by decide +kernel
    have c2 : cs (Str.ofString ")") = [41] := by decide +kernel
    have c3 : cs (Str.ofString "(a ") = [40, 97, 32] := by decide +kernel
    have c4 : cs (Str.ofString "b") = [98] := by decide +kernel
    have t12 : Int.toNat 1200 = 1200 := rfl
    have r1 : (cs (repS (Str.ofString "(") (Int.toNat 1200))).length = 1200 := by rw [repS_len]; show _ * (cs (Str.ofString "(")).length = _; rw [c1]; rfl
    have r2 : (cs (repS (Str.ofString ")") (Int.toNat 1200))).length = 1200 := by rw [repS_len]; show _ * (cs (Str.ofString ")")).length = _; rw [c2]; rfl
    have r3 : (cs (repS (Str.ofString "(a ") (Int.toNat 1200))).length = 3600 := by rw [repS_len]; show _ * (cs (Str.ofString "(a ")).length = _; rw [c3]; rfl
    have r4 : (cs (Str.ofString "b")).length = 1 := by rw [c4]; rfl
    have s1 : (Str.ofString "(").cps.toList.length * Int.toNat 1200 ≤ 1000000 := by show (cs (Str.ofString "(")).length * _ ≤ _; rw [c1]; decide
    have s2 : (Str.ofString ")").cps.toList.length * Int.toNat 1200 ≤ 1000000 := by show (cs (Str.ofString ")")).length * _ ≤ _; rw [c2]; decide
    have s3 : (Str.ofString "(a ").cps.toList.length * Int.toNat 1200 ≤ 1000000 := by show (cs (Str.ofString "(a ")).length * _ ≤ _; rw [c3]; decide
    refine ⟨by decide, by decide, s1, by decide, by decide, s1, by decide, by decide, s2, ?_, by decide, by decide, s3, ?_, by decide, by decide, s2, ?_, by decide, by decide, s2, by decide, by decide, s3, by decide, fun p hp => ⟨by decide, fun p1 hp1 => ⟨by decide, fun p2 hp2 p3 hp3 => ⟨by decide, fun p4 hp4 => ?_⟩⟩⟩⟩
    · rw [cs_len, cs_len, r1, r2]; decide
    · rw [cs_len, cs_len, r3, r4]; decide
    · rw [cs_len, cs_len, cs_app_len, r3, r4, r2]; decide
    have far : ∀ v ∈ [V.str (repS (Str.ofString "(") (Int.toNat 1200)), V.str (repS (Str.ofString "(") (Int.toNat 1200) ++ repS (Str.ofString ")") (Int.toNat 1200)), V.str (repS (Str.ofString "(a ") (Int.toNat 1200) ++ Str.ofString "b" ++ repS (Str.ofString ")") (Int.toNat 1200)), V.str (repS (Str.ofString ")") (Int.toNat 1200)), V.str (repS (Str.ofString "(a ") (Int.toNat 1200))], ∃ z : Str, v = .str z ∧ (cs z).length ≤ 200000 ∧ res (cs z) = none := by
      intro v hv
      simp only [List.mem_cons, List.not_mem_nil, or_false] at hv
      rcases hv with rfl | rfl | rfl | rfl | rfl
      · exact ⟨_, rfl, by rw [r1]; decide, by rw [cs_repS, c1, t12]; exact far1⟩
      · exact ⟨_, rfl, by rw [cs_app_len, r1, r2]; decide, by rw [cs_app, cs_repS, cs_repS, c1, c2, t12]; exact far2⟩
      · exact ⟨_, rfl, by rw [cs_app_len, cs_app_len, r3, r4, r2]; decide, by rw [cs_app, cs_app, cs_repS, cs_repS, c2, c3, c4, t12]; exact far3⟩
      · exact ⟨_, rfl, by rw [r2]; decide, by rw [cs_repS, c2, t12]; exact far4⟩
      · exact ⟨_, rfl, by rw [r3]; decide, by rw [cs_repS, c3, t12]; exact far5⟩
    have len5 : ([V.str (repS (Str.ofString "(") (Int.toNat 1200)), V.str (repS (Str.ofString "(") (Int.toNat 1200) ++ repS (Str.ofString ")") (Int.toNat 1200)), V.str (repS (Str.ofString "(a ") (Int.toNat 1200) ++ Str.ofString "b" ++ repS (Str.ofString ")") (Int.toNat 1200)), V.str (repS (Str.ofString ")") (Int.toNat 1200)), V.str (repS (Str.ofString "(a ") (Int.toNat 1200))]).length = 5 := rfl
    revert hp1 hp2 hp3 hp4
    generalize [V.str (repS (Str.ofString "(") (Int.toNat 1200)), V.str (repS (Str.ofString "(") (Int.toNat 1200) ++ repS (Str.ofString ")") (Int.toNat 1200)), V.str (repS (Str.ofString "(a ") (Int.toNat 1200) ++ Str.ofString "b" ++ repS (Str.ofString ")") (Int.toNat 1200)), V.str (repS (Str.ofString ")") (Int.toNat 1200)), V.str (repS (Str.ofString "(a ") (Int.toNat 1200))] = fs at far len5 ⊢
    intro hp1 hp2 hp3 hp4
    have E1 : Ex H1 (upd H1 p (HO.lst fs)) := Ex.new hp
    have q0 : upd H1 p (HO.lst fs) p = some (.lst fs) := upd_same
    generalize upd H1 p (HO.lst fs) = G1 at E1 q0 hp1 hp2 hp3 hp4 ⊢
    have E2 : Ex G1 (upd G1 p1 (HO.lst [V.str (Str.ofString "(a)")])) := Ex.new hp1
    have q1 : upd G1 p1 (HO.lst [V.str (Str.ofString "(a)")]) p1 = some (.lst [V.str (Str.ofString "(a)")]) := upd_same
    generalize upd G1 p1 (HO.lst [V.str (Str.ofString "(a)")]) = G2 at E2 q1 hp2 hp3 hp4 ⊢
    have E3 : Ex G2 (upd G2 p2 (HO.tup [V.str (Str.ofString "a")])) := Ex.new hp2
    have q2 : upd G2 p2 (HO.tup [V.str (Str.ofString "a")]) p2 = some (.tup [V.str (Str.ofString "a")]) := upd_same
    generalize upd G2 p2 (HO.tup [V.str (Str.ofString "a")]) = G3 at E3 q2 hp3 hp4 ⊢
    have E4 : Ex G3 (upd G3 p3 (HO.dK [])) := Ex.new hp3
    have q3 : upd G3 p3 (HO.dK []) p3 = some (.dK []) := upd_same
    generalize upd G3 p3 (HO.dK []) = G4 at E4 q3 hp4 ⊢
    have E5 : Ex G4 (upd G4 p4 (HO.lst [V.non, V.int 7, V.bl true, V.ref p1, V.ref p2, V.ref p3])) := Ex.new hp4
    have q4 : upd G4 p4 (HO.lst [V.non, V.int 7, V.bl true, V.ref p1, V.ref p2, V.ref p3]) p4 = some (.lst [V.non, V.int 7, V.bl true, V.ref p1, V.ref p2, V.ref p3]) := upd_same
    generalize upd G4 p4 (HO.lst [V.non, V.int 7, V.bl true, V.ref p1, V.ref p2, V.ref p3]) = G5 at E5 q4 ⊢
    have q0 := E5 _ _ (E4 _ _ (E3 _ _ (E2 _ _ q0)))
    have q1 := E5 _ _ (E4 _ _ (E3 _ _ q1))
    have q2 := E5 _ _ (E4 _ _ q2)
    have q3 := E5 _ _ q3
    clear E1 E2 E3 E4 E5 hp1 hp2 hp3 hp4 hp
    refine ⟨⟨_, SqL.of q0⟩, ?_⟩
    refine lc_val (walk_list (xs := fs)) (fun H' e => SqL.of (e _ _ q0)) (by rw [len5]; decide) (fun _ => .str (Str.ofString "form")) ?_ ?_
    · rintro j x G6 G7 hj e6 ⟨rfl, hx⟩ Qn k
      walk_at "rd"
      obtain ⟨z, rfl, hz, hn⟩ := far x (List.mem_of_getElem? hx)
      exact ⟨rfl, _, rfl, _, rfl, .inl ⟨z, rfl, hz, fun _ H' e => k _ e, fun l hl => by rw [hn] at hl; cases hl⟩⟩
    intro D1 G6 hD1 e6 h6
    refine ⟨by decide, fun b1 hb1 => ⟨_, upd_same, by decide, by decide, (show 1 * Int.toNat 5 ≤ sizeLine by decide), fun b2 hb2 => ⟨1, by decide, ?_, ?_⟩⟩⟩
    · refine .flatL (xs := List.replicate 5 (.str (Str.ofString "form"))) (SqL.of ?_) (SqL.of ?_) fun x hx => by rw [(List.mem_replicate.mp hx).2]; rfl
      · rw [upd_ne (ne_of_none ((upd_ne (ne_of_none h6 hb1)).trans h6) hb2), upd_ne (ne_of_none h6 hb1), h6, len5]
        rfl
      · rw [upd_same]
        rfl
    have e7 : Ex G5 (upd (upd G6 b1 (HO.lst [V.str (Str.ofString "form")])) b2 (HO.lst (List.replicate (Int.toNat 5) [V.str (Str.ofString "form")]).flatten)) := Same.trans (Same.trans e6 (Ex.new hb1)) (Ex.new hb2)
    generalize upd (upd G6 b1 (HO.lst [V.str (Str.ofString "form")])) b2 (HO.lst (List.replicate (Int.toNat 5) [V.str (Str.ofString "form")]).flatten) = G7 at e7 ⊢
    have q1 := e7 _ _ q1
    have q2 := e7 _ _ q2
    have q3 := e7 _ _ q3
    have q4 := e7 _ _ q4
    refine ⟨⟨_, SqL.of q4⟩, lc_val (walk_list (xs := [V.non, V.int 7, V.bl true, V.ref p1, V.ref p2, V.ref p3])) (fun H' e => SqL.of (e _ _ q4)) (show 6 ≤ 100000 by decide) (fun _ => .str (Str.ofString "string")) ?_ ?_⟩
    · rintro j x G8 G9 hj e8 ⟨rfl, hx⟩ Qn k
      walk_at "rd"
      have ty : isStr x = false ∧ Ty K G9 x := by
        match j, hx with
        | 0, hx => cases hx; exact ⟨rfl, trivial⟩
        | 1, hx => cases hx; exact ⟨rfl, trivial⟩
        | 2, hx => cases hx; exact ⟨rfl, trivial⟩
        | 3, hx => cases hx; exact ⟨rfl, Ty.lst (e8 _ _ q1)⟩
        | 4, hx => cases hx; exact ⟨rfl, Ty.tup (e8 _ _ q2)⟩
        | 5, hx => cases hx; exact ⟨rfl, Ty.dK (e8 _ _ q3)⟩
      exact ⟨rfl, _, rfl, _, rfl, .inr ⟨ty.1, ty.2, fun H' e => k _ e⟩⟩
    intro D2 G8 hD2 e8 h8
    refine ⟨by decide, fun b3 hb3 => ⟨_, upd_same, by decide, by decide, (show 1 * Int.toNat 6 ≤ sizeLine by decide), fun b4 hb4 => ⟨1, by decide, ?_, ?_⟩⟩⟩
    · refine .flatL (xs := List.replicate 6 (.str (Str.ofString "string"))) (SqL.of ?_) (SqL.of ?_) fun x hx => by rw [(List.mem_replicate.mp hx).2]; rfl
      · rw [upd_ne (ne_of_none ((upd_ne (ne_of_none h8 hb3)).trans h8) hb4), upd_ne (ne_of_none h8 hb3), h8]
        rfl
      · rw [upd_same]
        rfl
    refine ⟨_, rfl, .inl ⟨_, rfl, by decide +kernel, fun hr => absurd (hr.symm.trans lit1) nofun, fun l1 hl1 A1 J1 hA1 f1 hJ1 => ⟨_, rfl, .inl ⟨_, rfl, by decide +kernel, fun hr => absurd (hr.symm.trans lit2) nofun, fun l2 hl2 A2 J2 hA2 f2 hJ2 => ?_⟩⟩⟩⟩
    have w1 := Option.some.inj (hl1.symm.trans lit1)
    have w2 := Option.some.inj (hl2.symm.trans lit2)
    subst w1 w2
    have hJ1 := f2 _ _ hJ1
    refine ⟨by decide, fun u1 hu1 => ⟨by decide, fun u2 hu2 => ⟨by decide, fun u3 hu3 => ⟨by decide, fun u4 hu4 => ⟨2, by decide, ?_, hQ _⟩⟩⟩⟩⟩
    have i4 := fun {b : Addr} {o : HO} => Ex.new (o := HO.lst [V.ref u2, V.ref u3]) hu4 b o
    have i3 := fun {b : Addr} {o : HO} => Ex.new (o := HO.lst [V.str (Str.ofString "a"), V.str (Str.ofString "(b c)"), V.str (Str.ofString "'d (e'")]) hu3 b o
    have i2 := fun {b : Addr} {o : HO} => Ex.new (o := HO.lst []) hu2 b o
    have i1 := fun {b : Addr} {o : HO} => Ex.new (o := HO.lst [V.ref A1, V.ref A2]) hu1 b o
    refine .inr ⟨u1, u4, _, _, rfl, rfl, .inl ⟨SqL.of (i4 (i3 (i2 upd_same))), SqL.of upd_same⟩, .cons (SimR.v (.flatL (xs := []) (SqL.of (i4 (i3 (i2 (i1 hJ1))))) (SqL.of (i4 (i3 upd_same))) fun x hx => (nomatch hx))) (.cons (SimR.v (.flatL (SqL.of (i4 (i3 (i2 (i1 hJ2))))) (SqL.of (i4 ?_)) fun x hx => ?_)) .nil)⟩
    · rw [upd_same]
      simp only [List.map_cons, List.map_nil, toV_cs]
    · obtain ⟨y, _, rfl⟩ := List.mem_map.mp hx
      rfl
end
end K21

set_option Elab.async false
set_option linter.all false
set_option maxRecDepth 100000
set_option maxHeartbeats 0
namespace K21
open PySem PySem.Spec PyProof.Rows L2 Ab
abbrev R : PySem.W.OpenRow := PySem.W.OpenLaw.row PySem.Challenge.rw_aboveless_k21_parts_of_texts
abbrev hk : PySem.W.Hook := hookY 5 fa fn xn exB
def ob (s : PySem.W.SharedT) : AlY := obsYG 5 fa fn xn exB (HandSHeadRun.getT s)
theorem ob_eq (s : PySem.W.SharedT) : ob s = hk.obs s.abs := obsYG_eq (HandSHeadRun.getT_eq s)
def names : List PySem.Str := (["InvalidError", "InvalidName", "InvalidText", "InvalidKey", "InvalidSource", "InvalidCount", "MOST_DEPTH", "SPACE", "QUOTE", "OPENING", "CLOSING", "FIRST"] : List PySem.Str) ++ (["BEGUN", "ENDED", "SPACED", "WHOLE", "token_end", "may_follow", "behind", "parts_or_none", "parts_of", "_law_rng", "_law_draw", "_law_choice"] : List PySem.Str) ++ (["_law_word", "_law_part", "_law_text", "_law_deep", "_law_bent", "_law_word_end", "_law_ended", "_law_begun", "_law_closed", "_law_scanned", "_law_told", "_law_right"] : List PySem.Str)
theorem hrun (w : World) : HandSHeadRun.RunEq R (PySem.W.view R.prog [39]) hk ob 6000 names w := by
  intro os
  kernel_rfl
theorem pfile : PFile (PySem.Challenge.rw_aboveless_k21_parts_of_texts).prog := ⟨by kernel_rfl, by kernel_rfl⟩
end K21
open PySem PySem.W PySem.Calls PyProof.Rows
theorem PySem.Challenge.cw_aboveless_k21_parts_of_texts_holds : PySem.Challenge.rw_aboveless_k21_parts_of_texts.Holds := by
  w_on; o_law
  refine HandSHeadRun.head_any (r := OpenLaw.row PySem.Challenge.rw_aboveless_k21_parts_of_texts) (q := view (OpenLaw.row PySem.Challenge.rw_aboveless_k21_parts_of_texts).prog [39]) (H := K21.hk) (ob := K21.ob) (M := 6000) (loose := K21.names) (d := HandSHeadRun.topDef (OpenLaw.row PySem.Challenge.rw_aboveless_k21_parts_of_texts).prog 39) (kwd := []) K21.ob_eq
    (by kernel_rfl) (fun s => by kernel_rfl) K21.hrun (by kernel_rfl) (by kernel_rfl) (by kernel_rfl) (by rfl) (by first | assumption | decide +kernel) (by decide +kernel) ⟨rfl, rfl, rfl, rfl, rfl, by decide +kernel⟩ ?hw ?hc
  case hw => w_witness2
  case hc =>
    refine Ab.walk_q (l := PySem.Challenge.rw_aboveless_k21_parts_of_texts) (n := 63) (k := 12) (x := "_law_script") rfl (by decide) (by kernel_rfl) ⟨rfl, by decide, by decide⟩ ?F
    intro w mg f h Y G hmg0
    obtain ⟨K, KX, c, cx⟩ := Y
    have hmg : mg ("law" : PySem.Str) = some (.ref f) := by
      have e : (HandSHeadRun.topDef (OpenLaw.row PySem.Challenge.rw_aboveless_k21_parts_of_texts).prog 39).name = ("law" : PySem.Str) := by kernel_rfl
      rw [← e]
      exact hmg0
    have T : K21.Txt (PySem.Challenge.rw_aboveless_k21_parts_of_texts).prog K mg := ⟨⟨⟨h, KX, G⟩, c⟩, K21.pfile, cx⟩
    have ef := hmg.symm.trans (T.glo 36 (x := "law"))
    cases ef
    obtain ⟨fd, FD⟩ := T.dfn 20 (d := K21.d_law)
    have b := L2.FunD.bindsA (ps := ["_law_script"]) FD fun _ _ _ _ _ _ us hl => match us, hl with | [_], _ => rfl
    refine ⟨K, fd, K21.spLaw K, KX, fun s u => b s [u] rfl, fun H a ns hl hS => ⟨a, ns, rfl, hS, fun _ => rfl⟩, fun base _ _ => ?_⟩
    obtain ⟨fd', F', FD'⟩ := K21.ok_law (P := (PySem.Challenge.rw_aboveless_k21_parts_of_texts).prog) (w := w) (base := base) T
    exact Ab.fd_eq FD FD' ▸ F'.up
