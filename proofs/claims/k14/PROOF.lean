import PyProof.Rows.All
import Wide.All
import OpenK.AllK
import Wide.FinOn
import KE.KStateDown
import HandS.ForMost
import HandS.Flow
import HandS.Exc
import HandS.IsInst
import HandS.Star
import HandS.Defaults
import HandS.Wide
import HandS.WideBits
import HandS.EndBits
import HandS.HeadHook1
import HandS.HeadHook2
import HandS.HeadEnd
import HandS.Head2
import HandS.ClsMeth
import HandS.FStr
import HandS.Walk
import PyProof.ReprRoads
import PyProof.ReprNest
import PyProof.ReprDict
import HandS.FromBytesMap
import HandS.Ends
import KE.KExcSuper
import KE.KSuper
import HandS.ExcInit
import HandS.ExcSuper
import HandS.ExcIs
import HandS.ExcField
import HandS.Small
import HandS.StrMore
import HandS.Style
import HandS.DeepEq
import PyProof.NeKinds
import PySem.Challenge.RW_aboveless_k14_texts_of_values
import KE.IntTextLaws
import KE.IntTextText
set_option Elab.async false
set_option linter.all false
set_option maxRecDepth 100000
set_option maxHeartbeats 4000000
/-! AbA: defs with a guard's flag, by name. -/
namespace Ab
open PySem PySem.Spec PyProof.Rows L2
/-- no repr runs around (asked only where g is true) -/
def Gd (g : Bool) (A : Around) : Prop := g = true → A.guards = some []
theorem gd_deeper {g : Bool} {A : Around} (h : Gd g A) (env : Env) : Gd g (A.deeper env) := fun e => by
  have q := h e
  simp [Around.deeper, q]
theorem gd_false {A : Around} : Gd false A := fun e => by cases e
theorem gd_up {g : Bool} {A : Around} (h : A.guards = some []) : Gd g A := fun _ => h
/-- a def's promise: as FnOk, with the flag -/
structure Fq (g : Bool) (P : Program) (w : World) (K : PySem.W.Frag) (mg : Str → Option Value) (base : Heap)
    (CX : CXT) (k : Nat) (f : Addr) (fd : FuncData) (ps : List Str) (sp : Sp) : Prop where
  len : ∀ vs H Q E, sp vs H Q E → vs.length = ps.length
  go : ∀ (A : Around) (outer : List Env) (s : Shared) (H : Hp) (args : Args) (us : List Value) (vs : List V) (Q : VK) (E : XK),
    Gd g A → Room k A → Env0 P w K mg base A outer s H → BindsTo s fd args (ps.zip us) → Vals vs us → sp vs H Q E →
      codeAny (model P w) A (.call (.ref f) args) (CR CX outer P w H s Q E) s
theorem Fq.of {P : Program} {w : World} {K : PySem.W.Frag} {mg : Str → Option Value} {base : Heap} {CX : CXT} {k : Nat}
    {f : Addr} {fd : FuncData} {ps : List Str} {sp : Sp} (F : FnOk P w K mg base CX k f fd ps sp) :
    Fq false P w K mg base CX k f fd ps sp :=
  ⟨F.len, fun A outer s H args us vs Q E _ hr => F.run A outer s H args us vs Q E hr⟩
section
variable {g : Bool} {P : Program} {w : World} {K : PySem.W.Frag} {mg : Str → Option Value} {base : Heap} {CX : CXT} {k : Nat}
  {f : Addr} {fd : FuncData} {ps N : List Str} {sp : Sp} {x qual : Str} {params : Arguments} {body : List Stmt} {scope : Scope}
  {dvs : List V} {kws : List (Str × V)}
/-- a def by its body -/
theorem Fq.mk' (F : FunD K x qual params body scope dvs kws f fd) (S : FnScope N ps scope)
    (len : ∀ vs H Q E, sp vs H Q E → vs.length = ps.length)
    (hbody : ∀ (cdv : Value) (A : Around) (outer : List Env) (s : Shared) (H : Hp) (vs : List V) (Q : VK) (E : XK),
      Gd g (A.deeper (envOfC qual scope s.heap.objs.size f cdv)) →
      Room k (A.deeper (envOfC qual scope s.heap.objs.size f cdv)) → sp vs H Q E →
      ∃ t, PSs (cxOf CX P w K mg base N qual scope f cdv A outer s H E) body t ∧
        t { nx := fun _ H' => Q .non H', rt := Q } (start N vs) H) :
    Fq g P w K mg base CX (k + 1) f fd ps sp := by
  obtain ⟨oc, od, dV, kV, doc, pm, an, cdv, ct, osl, rfl, lk, hcd, _, _⟩ := F.ex
  refine ⟨len, fun A outer s H args us vs Q E hg hr e0 hb r hsp => ?_⟩
  have KX : K.In s.heap := e0.mod.kin.keeps fun b o e => (e0.bs b o e).1
  have lim : s.heap.NoLimit := e0.mod.nolimit.keeps fun b o e => (e0.bs b o e).1
  have kinds : ∀ y ∈ ps.zip us, scope.names.lookup y.1 = some .local ∨
      (scope.names.lookup y.1 = some .cell ∧ ((cellsFrom (s.heap.objs.size + 1) scope.names []).lookup y.1).isSome = true) := by
    rintro ⟨n, v⟩ hy
    rcases S.par n (List.of_mem_zip hy).1 with q | q
    · exact Or.inl q
    · exact Or.inr ⟨q, PySem.W.cellsFrom_some _ _ _ (Or.inl q)⟩
  refine codeAny_call_function hr.depth (KX _ _ lk) rfl S.co S.gen rfl (PySem.W.codeRec_of KX hcd) (hb _ _ _ _ ?_)
  refine wpAny_newFunctionEnv_cells S.kind kinds fun env he s1 x => ?_
  subst he
  refine ⟨lim.keeps x.toInCall.keep, codeAny_func ?_⟩
  obtain ⟨t, ht, hq⟩ := hbody cdv A outer s H vs Q E (gd_deeper hg _) (hr.deeper _) hsp
  have I := inv_start (CX := CX) (E := E) (cd := cdv) (f := f) (qual := qual) S hr.hd e0 (len _ _ _ _ hsp) r x
  refine wpAny_mono (ht.run [] s1 (start N vs) H _ I hq) (fun fl s' hs => ?_) fun e s' hs => hs
  cases fl with
  | ret u =>
    obtain ⟨v, σ', H', J, rv, q⟩ := hs
    exact ⟨v, H', J.os, J.bare, J.base, J.hok, rv, q⟩
  | next =>
    obtain ⟨σ', H', J, q⟩ := hs
    exact ⟨V.non, H', J.os, J.bare, J.base, J.hok, rfl, q⟩
  | brk => obtain ⟨_, _, _, q⟩ := hs; exact q.elim
  | cont => obtain ⟨_, _, _, q⟩ := hs; exact q.elim
end
/-! ### how values bind -/
def Bw (K : PySem.W.Frag) (fd : FuncData) (ps : List Str) (n : Nat) (ks : List Str) (gV : List V → List V → List V) : Prop :=
  ∀ (s : Shared) (us ws : List Value), K.In s.heap → us.length = n → ws.length = ks.length →
    ∃ zs, BindsTo s fd ⟨us, ks.zip ws⟩ (ps.zip zs) ∧ ∀ vs ys, Vals vs us → Vals ys ws → Vals (gV vs ys) zs
abbrev gPos : List V → List V → List V := fun vs _ => vs
section
variable {K : PySem.W.Frag} {x qual : Str} {params : Arguments} {body : List Stmt} {scope : Scope} {kws : List (Str × V)} {f : Addr} {fd : FuncData} {ps : List Str}
/-- every parameter by its place -/
theorem bw_pos (F : FunD K x qual params body scope [] kws f fd) (n : Nat) (hn : n = ps.length)
    (h : ∀ (kV doc pm : Value) (an : Option Addr) (cdv ct : Value) (us : List Value), us.length = ps.length →
      bindArgs (PySem.W.fnOf x qual params body scope .none kV doc pm an cdv ct) ⟨us, []⟩ = pure (ps.zip us)) : Bw K fd ps n [] gPos := by
  intro s us ws X l1 l2
  have e : ws = [] := List.length_eq_zero_iff.mp l2
  subst e
  exact ⟨us, F.bindsA h s us (l1.trans hn), fun vs ys r _ => r⟩
/-- by names too, no default is looked up -/
theorem bw_kw (F : FunD K x qual params body scope [] kws f fd) (n : Nat) (ks : List Str) (g : {α : Type} → List α → List α → List α)
    (h : ∀ (kV doc pm : Value) (an : Option Addr) (cdv ct : Value) (us ws : List Value), us.length = n → ws.length = ks.length →
      bindArgs (PySem.W.fnOf x qual params body scope .none kV doc pm an cdv ct) ⟨us, ks.zip ws⟩ = pure (ps.zip (g us ws)))
    (hrel : ∀ {vs ys : List V} {us ws : List Value}, us.length = n → ws.length = ks.length → Vals vs us → Vals ys ws → Vals (g vs ys) (g us ws)) : Bw K fd ps n ks g := by
  intro s us ws X l1 l2
  obtain ⟨oc, od, dV, kV, doc, pm, an, cdv, ct, osl, rfl, lk, hcd, hD, hK⟩ := F.ex
  rcases hD with ⟨_, rfl⟩ | ⟨e, _⟩
  · exact ⟨g us ws, .of_eq (h kV doc pm an cdv ct us ws l1 l2), fun vs ys r1 r2 => hrel l1 l2 r1 r2⟩
  · exact absurd rfl e
theorem bw_kbn {n : Nat} {ks : List Str} {g : List Value → List Value → List Value} {gV : List V → List V → List V} (h : KBn K fd ps n ks g gV) : Bw K fd ps n ks gV :=
  fun s us ws X l1 l2 => ⟨g us ws, h.to s us ws X l1 l2, fun _ _ r1 r2 => h.rel r1 r2⟩
/-- by place, one keyword-only parameter left to its default -/
theorem bw_d1 {y : Str} {v : V} (F : FunD K x qual params body scope [] [(y, v)] f fd) (n : Nat) (hn : n + 1 = ps.length)
    (h : ∀ (D : Addr) (doc pm : Value) (an : Option Addr) (cdv ct : Value) (us : List Value) (z : Value), us.length = n →
      KwChain D [(y, z)] (bindArgs (PySem.W.fnOf x qual params body scope .none (.ref D) doc pm an cdv ct) ⟨us, []⟩) (ps.zip (us ++ [z]))) :
    Bw K fd ps n [] (fun vs _ => vs ++ [v]) := by
  obtain ⟨ds, r, hb⟩ := FunD.binds0 (ps := ps) F n (by simp) (by simpa using hn) fun D doc pm an cdv ct us ks l1 l2 => by
    match ks, l2 with
    | [z], _ => exact h D doc pm an cdv ct us z l1
  intro s us ws X l1 l2
  have e : ws = [] := List.length_eq_zero_iff.mp l2
  subst e
  refine ⟨us ++ ds, hb s us X ?_, fun vs ys q _ => q.append r⟩
  have e := r.length
  rw [List.length_append, l1, ← e]
  exact hn
end
/-! ### a def by its datum -/
/-- the def d keeps sp -/
def Fo (g : Bool) (P : Program) (w : World) (K : PySem.W.Frag) (mg : Str → Option Value) (base : Heap)
    (CX : CXT) (k : Nat) (d : He.DefD) (ps : List Str) (sp : Sp) : Prop :=
  ∃ fd, Fq g P w K mg base CX k (He.fAd K d.at_) fd ps sp ∧
    FunD K d.name d.qual d.params d.body d.scope (d.dvs K) (d.kws K) (He.fAd K d.at_) fd
section
variable {X : Cx} {g : Bool} {CX : CXT} {k n : Nat} {d : He.DefD} {ps ks : List Str} {sp : Sp} {E : XK} {x : Str} {p pos : Pos} {e : Expr}
  {es : List Expr} {kws : List Keyword} {t tk : TA} {gV : List V → List V → List V}
theorem run_fq {f : Addr} {fd : FuncData} {pins : List (Addr × Obj)} {σ : L2.St} {H : Hp} {s : Shared} {Q : VK} {args : Args} {us : List Value} {vs : List V}
    (F : Fq g X.prog X.w X.K X.mg X.base CX k f fd ps sp) (hg : Gd g X.A) (hr : Room k X.A) (hb : BindsTo s fd args (ps.zip us))
    (hx : Passes CX X E) (I : Inv X pins σ H s) (r : Vals vs us) (h : sp vs H Q E) :
    codeAny (model X.prog X.w) X.A (.call (.ref f) args) (fun r s' => match r with
      | .ok (.ret v) => EP X pins σ Q v s' | .ok _ => False | .error e => X.xe e s') s := by
  refine codeAny_mono (F.go X.A X.stack s H args us vs Q E hg hr I.env0 hb r h) fun r s' hq => ?_
  cases r with
  | error e => exact hx pins σ H s e s' I hq
  | ok fl =>
    cases fl with
    | ret u => exact I.after hq
    | _ => exact hq.elim
/-- how a call's reading goes: n values by place, m by name -/
def tO (n m : Nat) (sp : Sp) (gV : List V → List V → List V) (E : XK) (t tk : TA) : TE := fun σ H Q => t σ H fun vs H1 => tk σ H1 fun zs H2 =>
  vs.length = n ∧ zs.length = m ∧ sp (gV vs zs) H2 Q E
/-- x(e, ..) -/
theorem pe_o (F : Fo g X.prog X.w X.K X.mg X.base CX k d ps sp) (hm : X.mg x = some (.ref (He.fAd X.K d.at_)))
    (hb : ∀ fd, FunD X.K d.name d.qual d.params d.body d.scope (d.dvs X.K) (d.kws X.K) (He.fAd X.K d.at_) fd → Bw X.K fd ps n [] gV)
    (hg : Gd g X.A) (hr : Room k X.A) (gl : Gl X x) (hx : Passes CX X E)
    (ha : PA X (e :: es) t) (hdb : (x == ("__debug__" : Str)) = false := by decide)
    (he : starEach (e :: es) X.env = (false, eval e X.env) :: starEach es X.env := by rfl)
    (hpl : (backTo pos (starEach es X.env)).any (·.1) = false := by rfl) :
    PE X (.Call (.Name x p) (e :: es) [] pos) (tO n 0 sp gV E t tNil) := by
  obtain ⟨fd, F1, FD⟩ := F
  refine ⟨fun pins s σ H Q I h => wpAny_Call_Name_kw (ld_glob I gl hm ?_ hdb)⟩
  refine PySem.W.callWith_K (h₀ := X.base) I.ok.mod.kin FD.kp (thn (ha.run pos pins s σ H _ I h) fun us s1 q => ?_) he hpl
  obtain ⟨vs, H1, I1, r, l1, l2, q⟩ := q
  obtain ⟨zs, hB, hV⟩ := hb fd FD s1 us [] I1.kIn (r.length.symm.trans l1) rfl
  exact ⟨I1.kIn, wpAny_call (run_fq F1 hg hr hB hx I1 (hV vs [] r .nil) q)⟩
theorem pe_o0 (F : Fo g X.prog X.w X.K X.mg X.base CX k d ps sp) (hm : X.mg x = some (.ref (He.fAd X.K d.at_)))
    (hb : ∀ fd, FunD X.K d.name d.qual d.params d.body d.scope (d.dvs X.K) (d.kws X.K) (He.fAd X.K d.at_) fd → Bw X.K fd ps 0 [] gV)
    (hg : Gd g X.A) (hr : Room k X.A) (gl : Gl X x) (hx : Passes CX X E)
    (hdb : (x == ("__debug__" : Str)) = false := by decide) : PE X (.Call (.Name x p) [] [] pos) (tO 0 0 sp gV E tNil tNil) := by
  obtain ⟨fd, F1, FD⟩ := F
  refine ⟨fun pins s σ H Q I h => wpAny_Call_Name_kw (ld_glob I gl hm ?_ hdb)⟩
  obtain ⟨l1, l2, q⟩ := h
  obtain ⟨zs, hB, hV⟩ := hb fd FD s [] [] I.kIn rfl rfl
  exact PySem.W.callWith_K0 I.kIn FD.kp (wpAny_call (run_fq F1 hg hr hB hx I (hV [] [] .nil .nil) q))
/-- x(e, .., k = v, ..) -/
theorem pe_ok (F : Fo g X.prog X.w X.K X.mg X.base CX k d ps sp) (hm : X.mg x = some (.ref (He.fAd X.K d.at_)))
    (hb : ∀ fd, FunD X.K d.name d.qual d.params d.body d.scope (d.dvs X.K) (d.kws X.K) (He.fAd X.K d.at_) fd → Bw X.K fd ps n ks gV)
    (hg : Gd g X.A) (hr : Room k X.A) (gl : Gl X x) (hx : Passes CX X E)
    (ha : PA X (e :: es) t) (hkw : PK X kws tk) (hall : (backToKw pos (keywordEach kws X.env)).all (·.1.isSome) = true := by rfl)
    (hks : (backToKw pos (keywordEach kws X.env)).filterMap (·.1) = ks := by rfl)
    (hdb : (x == ("__debug__" : Str)) = false := by decide) (he : starEach (e :: es) X.env = (false, eval e X.env) :: starEach es X.env := by rfl)
    (hpl : ((backTo pos (starEach (e :: es) X.env)).any (·.1) || (backToKw pos (keywordEach kws X.env)).any (·.1.isNone)) = false := by rfl) :
    PE X (.Call (.Name x p) (e :: es) kws pos) (tO n ks.length sp gV E t tk) := by
  obtain ⟨fd, F1, FD⟩ := F
  refine ⟨fun pins s σ H Q I h => wpAny_Call_Name_kw (ld_glob I gl hm ?_ hdb)⟩
  refine PySem.W.callWith_KW (h₀ := X.base) I.ok.mod.kin FD.kp hall (thn (ha.run pos pins s σ H _ I h) fun us s1 q => ?_) hpl he
  obtain ⟨vs, H1, I1, r, q⟩ := q
  refine thn (hkw.run pos pins s1 σ H1 _ I1 q) fun ws s2 q2 => ?_
  obtain ⟨ys, H2, I2, rz, l1, l2, q3⟩ := q2
  rw [hks]
  obtain ⟨zs, hB, hV⟩ := hb fd FD s2 us ws I2.kIn (r.length.symm.trans l1) (rz.length.symm.trans l2)
  exact ⟨I2.kIn, wpAny_call (run_fq F1 hg hr hB hx I2 (hV vs ys r rz) q3)⟩
/-- x(k = v, ..) -/
theorem pe_ok0 (F : Fo g X.prog X.w X.K X.mg X.base CX k d ps sp) (hm : X.mg x = some (.ref (He.fAd X.K d.at_)))
    (hb : ∀ fd, FunD X.K d.name d.qual d.params d.body d.scope (d.dvs X.K) (d.kws X.K) (He.fAd X.K d.at_) fd → Bw X.K fd ps 0 ks gV)
    (hg : Gd g X.A) (hr : Room k X.A) (gl : Gl X x) (hx : Passes CX X E)
    (hkw : PK X kws tk) (hall : (backToKw pos (keywordEach kws X.env)).all (·.1.isSome) = true := by rfl)
    (hks : (backToKw pos (keywordEach kws X.env)).filterMap (·.1) = ks := by rfl)
    (hdb : (x == ("__debug__" : Str)) = false := by decide)
    (hpl : ((backTo pos (starEach [] X.env)).any (·.1) || (backToKw pos (keywordEach kws X.env)).any (·.1.isNone)) = false := by rfl) :
    PE X (.Call (.Name x p) [] kws pos) (tO 0 ks.length sp gV E tNil tk) := by
  obtain ⟨fd, F1, FD⟩ := F
  refine ⟨fun pins s σ H Q I h => wpAny_Call_Name_kw (ld_glob I gl hm ?_ hdb)⟩
  refine PySem.W.callWith_KW0 (h₀ := X.base) I.ok.mod.kin FD.kp hall (thn (hkw.run pos pins s σ H _ I h) fun ws s2 q2 => ?_) hpl
  obtain ⟨ys, H2, I2, rz, l1, l2, q3⟩ := q2
  rw [hks]
  obtain ⟨zs, hB, hV⟩ := hb fd FD s2 [] ws I2.kIn rfl (rz.length.symm.trans l2)
  exact ⟨I2.kIn, wpAny_call (run_fq F1 hg hr hB hx I2 (hV [] ys .nil rz) q3)⟩
end
/-! ### the head's facts -/
abbrev AlX : Type := He.AlD × Bool
def obsXG (n : Nat) (fa : List He.Fa) (fn : List He.DefD) (ex : PySem.W.Frag → Bool) (g : Addr → Option Obj) : AlX :=
  (fun K => (He.obsD fa fn K, ex K)) (He.frG g (He.asD g n ++ [cStatics]))
/-- what is told of the written part -/
structure Says (fa : List He.Fa) (fn : List He.DefD) (ex : PySem.W.Frag → Bool) (K : PySem.W.Frag) : Prop where
  d : He.SaysD fa fn K
  more : ex K = true
def hookX (n : Nat) (fa : List He.Fa) (fn : List He.DefD) (ex : PySem.W.Frag → Bool) : PySem.W.Hook where
  α := AlX
  obs := fun s => obsXG n fa fn ex s.heap.get?
  val := fun _ => (He.valD fn, true)
  says := fun _ h => ∃ K : PySem.W.Frag, K.In h ∧ Says fa fn ex K
  of := fun _ _ e => ⟨_, He.frG_in, congrArg (fun z : AlX => z.1) e, congrArg (fun z : AlX => z.2) e⟩
  keeps := fun _ _ _ ⟨K, hK, c⟩ k => ⟨K, PySem.W.Frag.In.keeps hK k, c⟩
theorem obsXG_eq {n : Nat} {fa : List He.Fa} {fn : List He.DefD} {ex : PySem.W.Frag → Bool} {g : Addr → Option Obj} {s : Shared} (h : ∀ a, g a = s.heap.get? a) :
    obsXG n fa fn ex g = (hookX n fa fn ex).obs s := by
  have e : g = s.heap.get? := funext h
  rw [e]
  rfl
/-- the text's facts, with the module's names -/
structure Tx (fa : List He.Fa) (fn : List He.DefD) (ex : PySem.W.Frag → Bool) (K : PySem.W.Frag) (mg : Str → Option Value) : Prop where
  hp : ∃ h : Heap, K.In h ∧ h.Ns mainGlobals mg
  c : Says fa fn ex K
section
variable {fa : List He.Fa} {fn : List He.DefD} {ex : PySem.W.Frag → Bool} {K : PySem.W.Frag} {mg : Str → Option Value}
theorem Tx.fact (T : Tx fa fn ex K mg) (i : Nat) {f : He.Fa} (h : fa[i]? = some f := by rfl) : f.ok K = true := T.c.d.fact i h
theorem Tx.dfn (T : Tx fa fn ex K mg) (i : Nat) {d : He.DefD} (h : fn[i]? = some d := by rfl) :
    ∃ fd, FunD K d.name d.qual d.params d.body d.scope (d.dvs K) (d.kws K) (He.fAd K d.at_) fd := T.c.d.def_ i h
theorem Tx.glo (T : Tx fa fn ex K mg) (i : Nat) {x : Str} (h : fa[i]? = some (.glo x) := by rfl) : mg x = some (.ref (He.ga K x)) := by
  obtain ⟨hp, X, G⟩ := T.hp
  exact He.glo_ok X G (T.fact i h)
theorem Tx.free (T : Tx fa fn ex K mg) (i : Nat) {x : Str} (h : fa[i]? = some (.free x) := by rfl) : mg x = none := by
  obtain ⟨hp, X, G⟩ := T.hp
  exact He.free_ok X G (T.fact i h)
theorem Tx.str (T : Tx fa fn ex K mg) (i : Nat) {x z : Str} (h : fa[i]? = some (.str x z) := by rfl) : ∃ t, mg x = some (.str z t) := by
  obtain ⟨hp, X, G⟩ := T.hp
  exact He.str_ok X G (T.fact i h)
theorem Tx.int (T : Tx fa fn ex K mg) (i : Nat) {x : Str} {z : Int} (h : fa[i]? = some (.int x z) := by rfl) : ∃ t, mg x = some (.int z t) := by
  obtain ⟨hp, X, G⟩ := T.hp
  exact He.int_ok X G (T.fact i h)
end
section
variable {X : Cx} {x : Str} {pos : Pos}
theorem pe_gs {z : Str} (hg : Gl X x) (h : ∃ t, X.mg x = some (.str z t)) (hd : (x == ("__debug__" : Str)) = false := by decide) : PE X (.Name x pos) (tC (.str z)) := by
  obtain ⟨t, h⟩ := h
  exact pe_glob hg h ⟨t, rfl⟩ hd
theorem pe_gi {z : Int} (hg : Gl X x) (h : ∃ t, X.mg x = some (.int z t)) (hd : (x == ("__debug__" : Str)) = false := by decide) : PE X (.Name x pos) (tC (.int z)) := by
  obtain ⟨t, h⟩ := h
  exact pe_glob hg h ⟨t, rfl⟩ hd
theorem pe_gr {a : Addr} (hg : Gl X x) (h : X.mg x = some (.ref a)) (hd : (x == ("__debug__" : Str)) = false := by decide) : PE X (.Name x pos) (tC (.ref a)) := pe_glob hg h rfl hd
end
/-! ### C() by a positional promise of its __init__ -/
theorem pe_mk0 {X : Cx} {CX : CXT} {k : Nat} {f C : Addr} {sp : Sp} {E : XK} {x : Str} {p pos : Pos} (M : Mk X.K C f) (F : FnR X.prog X.w X.K X.mg X.base CX k f sp)
    (hr : Room (k + 1) X.A) (hg : Gl X x) (hm : X.mg x = some (.ref C)) (hx : Passes CX X E) (hdb : (x == ("__debug__" : Str)) = false := by decide) :
    PE X (.Call (.Name x p) [] [] pos) (StX.tMakeR C sp E tNil) := by
  refine ⟨fun pins s σ H Q I h => wpAny_Call_Name_kw (ld_glob I hg hm ?_ hdb)⟩
  exact PySem.W.callWith_K0 I.kIn M.kp (StX.run_makeR (us := []) M F hr hx I .nil h)
/-- def m(self, *rest) -/
theorem fn_star1 {CX : CXT} {P : Program} {w : World} {K : PySem.W.Frag} {mg : Str → Option Value} {base : Heap} {k : Nat} {f : Addr} {fd : FuncData} {N : List Str} {sp : Sp} {x qual p1 pv : Str} {params : Arguments} {body : List Stmt} {scope : Scope} {kws : List (Str × V)}
    (F : FunD K x qual params body scope [] kws f fd) (S : FnScope N [p1, pv] scope) (hCX : StX.CXUp CX)
    (h0 : ∀ (kV doc pm : Value) (an : Option Addr) (cdv ct : Value) (a : Value), bindArgs (PySem.W.fnOf x qual params body scope .none kV doc pm an cdv ct) ⟨[a], []⟩ = (newTuple [] >>= fun t => pure [(p1, a), (pv, t)]))
    (h1 : ∀ (kV doc pm : Value) (an : Option Addr) (cdv ct : Value) (a r : Value) (rs : List Value), bindArgs (PySem.W.fnOf x qual params body scope .none kV doc pm an cdv ct) ⟨a :: r :: rs, []⟩ = (newTuple (r :: rs) >>= fun t => pure [(p1, a), (pv, t)]))
    (hbody : ∀ (cdv : Value) (A : Around) (outer : List Env) (s : Shared) (H : Hp) (vs : List V) (Q : VK) (E : XK), Room k (A.deeper (envOfC qual scope s.heap.objs.size f cdv)) → sp vs H Q E →
      ∃ t, PSs (cxOf CX P w K mg base N qual scope f cdv A outer s H E) body t ∧ t { nx := fun _ H' => Q .non H', rt := Q } (start N vs) H) :
    FnR P w K mg base CX (k + 1) f (fun vs H Q E => ∃ (a : V) (rest : List V), vs = a :: rest ∧ rest.length ≤ sizeLine ∧ ∀ p, H p = none → sp [a, .ref p] (upd H p (.tup rest)) Q E) := by
  obtain ⟨oc, od, dV, kV, doc, pm, an, cdv, ct, osl, rfl, lk, hcd, hD, _⟩ := F.ex
  rcases hD with ⟨_, rfl⟩ | ⟨e, _⟩
  · refine FnR.imp (StX.fn_star (ps := [p1]) (pv := pv) (sp := sp) lk hcd S hCX (StX.bind_star1 (B := fun us => bindArgs (PySem.W.fnOf x qual params body scope .none kV doc pm an cdv ct) ⟨us, []⟩) (h0 kV doc pm an cdv ct) (h1 kV doc pm an cdv ct))
      (fun A outer s H vs Q E hr h => hbody cdv A outer s H vs Q E hr h)) fun vs H Q E h => ?_
    obtain ⟨a, rest, rfl, hz, q⟩ := h
    exact ⟨[a], rest, rfl, rfl, hz, q⟩
  · exact absurd rfl e
end Ab

set_option Elab.async false
set_option linter.all false
set_option maxRecDepth 100000
set_option maxHeartbeats 4000000
/-! AbB: frames, the drawn numbers, loops. -/
namespace Ab
open PySem PySem.Spec PyProof.Rows L2
/-- all that stands but r's object stays -/
def Fx (r : Addr) (H H' : Hp) : Prop := ∀ b o, b ≠ r → H b = some o → H' b = some o
/-- all that stands stays -/
abbrev Ex (H H' : Hp) : Prop := Same H H'
theorem Fx.refl {r : Addr} {H : Hp} : Fx r H H := fun _ _ _ e => e
theorem Fx.trans {r : Addr} {H H1 H2 : Hp} (a : Fx r H H1) (b : Fx r H1 H2) : Fx r H H2 := fun x o n e => b x o n (a x o n e)
theorem Fx.ex {r : Addr} {H H1 H2 : Hp} (a : Fx r H H1) (b : Ex H1 H2) : Fx r H H2 := fun x o n e => b x o (a x o n e)
theorem Ex.fx {r : Addr} {H H' : Hp} (a : Ex H H') : Fx r H H' := fun x o _ e => a x o e
theorem Ex.new {H : Hp} {p : Addr} {o : HO} (h : H p = none) : Ex H (upd H p o) := fun a u e => by
  rw [upd_ne (ne_of_none e h)]
  exact e
theorem Ex.keep {H H' : Hp} {p : Addr} {o : HO} (e : Ex H H') (h : H p = none) : Ex H (upd H' p o) := fun a u q => by
  rw [upd_ne (ne_of_none q h)]
  exact e a u q
theorem Fx.keep {r : Addr} {H H' : Hp} {p : Addr} {o : HO} (e : Fx r H H') (h : H p = none) : Fx r H (upd H' p o) := fun a u n q => by
  rw [upd_ne (ne_of_none q h)]
  exact e a u n q
theorem Fx.own {r : Addr} {H H' : Hp} {o : HO} (e : Fx r H H') : Fx r H (upd H' r o) := fun a u n q => by
  rw [upd_ne n]
  exact e a u n q
theorem Ex.none {H H' : Hp} (e : Ex H H') {p : Addr} (h : H' p = none) : H p = none := e.free h
/-- the drawn numbers' list stands at r -/
def Rng (r : Addr) (H : Hp) : Prop := ∃ a b : Int, H r = some (.lst [.int a, .int b]) ∧ 0 ≤ b ∧ b < 2147483648
theorem Rng.ex {r : Addr} {H H' : Hp} (h : Rng r H) (e : Ex H H') : Rng r H' := by
  obtain ⟨a, b, h1, h2⟩ := h
  exact ⟨a, b, e _ _ h1, h2⟩
theorem Rng.ne {r p : Addr} {H : Hp} (h : Rng r H) (n : H p = none) : p ≠ r := by
  obtain ⟨a, b, h1, _⟩ := h
  exact (ne_of_none h1 n).symm
/-- something was drawn: r's list is another one, all else stays -/
structure Dr (r : Addr) (H H' : Hp) : Prop where
  fx : Fx r H H'
  rg : Rng r H'
theorem Dr.refl {r : Addr} {H : Hp} (h : Rng r H) : Dr r H H := ⟨Fx.refl, h⟩
theorem Dr.trans {r : Addr} {H H1 H2 : Hp} (a : Dr r H H1) (b : Dr r H1 H2) : Dr r H H2 := ⟨a.fx.trans b.fx, b.rg⟩
theorem Dr.ex {r : Addr} {H H1 H2 : Hp} (a : Dr r H H1) (b : Ex H1 H2) : Dr r H H2 := ⟨a.fx.ex b, a.rg.ex b⟩
theorem Dr.new {r : Addr} {H : Hp} {p : Addr} {o : HO} (h : Rng r H) (n : H p = none) : Dr r H (upd H p o) := (Dr.refl h).ex (Ex.new n)
theorem Dr.get {r : Addr} {H H' : Hp} {p : Addr} {o : HO} (a : Dr r H H') (n : p ≠ r) (h : H p = some o) : H' p = some o := a.fx p o n h
theorem Dr.keep {r : Addr} {H H' : Hp} {p : Addr} {o : HO} (a : Dr r H H') (hr : Rng r H) (n : H p = none) : Dr r H (upd H' p o) := by
  obtain ⟨x, y, h1, h2⟩ := a.rg
  exact ⟨a.fx.keep n, x, y, by rw [upd_ne (hr.ne n).symm]; exact h1, h2⟩
theorem Dr.seqL {K : PySem.W.Frag} {r : Addr} {H H' : Hp} {p : Addr} {xs : List V} (a : Dr r H H') (n : p ≠ r) (h : SqL K H p xs) : SqL K H' p xs := by
  rcases h with (h | ⟨o, h⟩) | h
  · exact .inl (.inl (a.get n h))
  · exact .inl (.inr ⟨o, a.get n h⟩)
  · exact .inr h
theorem ex_seqL {K : PySem.W.Frag} {H H' : Hp} {p : Addr} {xs : List V} (a : Ex H H') (h : SqL K H p xs) : SqL K H' p xs := by
  rcases h with (h | ⟨o, h⟩) | h
  · exact .inl (.inl (a _ _ h))
  · exact .inl (.inr ⟨o, a _ _ h⟩)
  · exact .inr h
theorem ex_seqT {K : PySem.W.Frag} {H H' : Hp} {p : Addr} {xs : List V} (a : Ex H H') (h : SqT K H p xs) : SqT K H' p xs := by
  rcases h with (h | ⟨o, h⟩) | h
  · exact .inl (.inl (a _ _ h))
  · exact .inl (.inr ⟨o, a _ _ h⟩)
  · exact .inr h
theorem dr_seqT {K : PySem.W.Frag} {r : Addr} {H H' : Hp} {p : Addr} {xs : List V} (a : Dr r H H') (n : p ≠ r) (h : SqT K H p xs) : SqT K H' p xs := by
  rcases h with (h | ⟨o, h⟩) | h
  · exact .inl (.inl (a.get n h))
  · exact .inl (.inr ⟨o, a.get n h⟩)
  · exact .inr h
/-! ### what the drawing defs promise -/
def spRng (K : PySem.W.Frag) : Sp := fun vs H Q _ => ∃ (a : Addr) (ns : List Int) (k : Int), vs = [.ref a, .int k] ∧ SqL K H a (ns.map V.int) ∧ 0 ≤ k ∧ k ≤ 1000 ∧
  ∀ (p : Addr) (H' : Hp), H p = none → Ex H H' → Rng p H' → Q (.ref p) H'
def spDraw : Sp := fun vs H Q _ => ∃ (r : Addr) (m : Int), vs = [.ref r, .int m] ∧ Rng r H ∧ 0 < m ∧ m ≤ 100000 ∧
  ∀ (k : Int) (H' : Hp), 0 ≤ k → k < m → Dr r H H' → Q (.int k) H'
def spChoice (K : PySem.W.Frag) : Sp := fun vs H Q _ => ∃ (r a : Addr) (xs : List V), vs = [.ref r, .ref a] ∧ Rng r H ∧ a ≠ r ∧ SqL K H a xs ∧ xs ≠ [] ∧ xs.length ≤ 100000 ∧
  ∀ (v : V) (H' : Hp), v ∈ xs → Dr r H H' → Q v H'
/-- of a text -/
def spChoiceS : Sp := fun vs H Q _ => ∃ (r : Addr) (z : Str), vs = [.ref r, .str z] ∧ Rng r H ∧ z.cps.toList ≠ [] ∧ z.cps.toList.length ≤ 100000 ∧
  ∀ (c : Nat) (H' : Hp), c ∈ z.cps.toList → Dr r H H' → Q (.str ⟨#[c]⟩) H'
/-! ### texts times numbers -/
theorem str_fold (k : Nat) (a acc : Array Nat) : ((List.replicate k a).foldl (· ++ ·) acc).toList = acc.toList ++ (List.replicate k a.toList).flatten := by
  induction k generalizing acc with
  | zero => simp
  | succ k ih => rw [List.replicate_succ, List.foldl_cons, ih]; simp [List.replicate_succ]
/-- a text so many times -/
def repS (z : Str) (n : Nat) : Str := ⟨(List.replicate n z.cps.toList).flatten.toArray⟩
theorem repS_len (z : Str) (n : Nat) : (repS z n).cps.toList.length = n * z.cps.toList.length := by
  unfold repS
  simp
def rRepS : R2 := fun x y H Q => ∃ (z : Str) (n : Int), x = .str z ∧ y = .int n ∧ 0 ≤ n ∧ n ≤ 100000 ∧ z.cps.toList.length * n.toNat ≤ 1000000 ∧ Q (.str (repS z n.toNat)) H
theorem op_repS {X : Cx} : OpR X (binaryOp .Mult) rRepS := by
  intro pins s σ H x y v u Q I rx ry h
  obtain ⟨z, n, rfl, rfl, h0, h1, h2, q⟩ := h
  obtain ⟨t, rfl⟩ := rx
  obtain ⟨t', rfl⟩ := ry
  have lz : z.length = z.cps.toList.length := by show z.cps.size = _; simp
  have h3 : z.length * n.toNat ≤ 1000000 := by rw [lz]; exact h2
  refine PySem.P.mul_str (by simp; omega) (fun h4 _ => ?_) (fun _ _ => ?_) ?_
  · intro hc
    have e : (z.length : Int) * n ≤ 1000000 := by
      have : ((z.length * n.toNat : Nat) : Int) ≤ 1000000 := by omega
      rw [Int.natCast_mul, Int.toNat_of_nonneg h0] at this
      exact this
    have hn : 0 < n := by omega
    have := (Int.lt_iff_add_one_le).mp hc
    have h5 : (2 ^ 63 - 1) / n + 1 ≤ (z.length : Int) := this
    have h6 : 2 ^ 63 - 1 < n * ((2 ^ 63 - 1) / n + 1) := by
      have := Int.lt_mul_ediv_self_add (x := (2 ^ 63 - 1 : Int)) hn
      rw [Int.mul_add, Int.mul_one]
      exact this
    have h7 : n * ((2 ^ 63 - 1) / n + 1) ≤ n * (z.length : Int) := Int.mul_le_mul_of_nonneg_left h5 h0
    rw [Int.mul_comm] at e
    have : (2 ^ 63 - 1 : Int) < 1000000 := by omega
    exact absurd this (by decide)
  · unfold Builtin.Str.tooLong
    have : z.length * n.toNat ≤ sizeLine := Nat.le_trans h3 (by decide)
    first | simp; omega | (rw [decide_eq_false (by omega)]) | omega
  · by_cases c1 : n < 1
    · rw [if_pos c1]
      have : n.toNat = 0 := by omega
      refine ⟨by decide, ⟨.str (repS z n.toNat), H, I.tok _, ?_, q⟩⟩
      exact ⟨_, by rw [this]; rfl⟩
    · rw [if_neg c1]
      by_cases c2 : (n == 1 || z.length == 0) = true
      · rw [if_pos c2]
        refine ⟨.str (repS z n.toNat), H, I, ?_, q⟩
        have e : z = repS z n.toNat := by
          have : z.cps = (repS z n.toNat).cps := by
            apply Array.ext'
            simp only [Bool.or_eq_true, beq_iff_eq] at c2
            rcases c2 with c2 | c2
            · subst c2; simp [repS]
            · rw [lz] at c2
              have c3 := List.length_eq_zero_iff.mp c2
              simp [repS, c3]
          exact congrArg PySem.Str.mk this
        exact ⟨t, by rw [← e]⟩
      · rw [if_neg c2]
        have ez : (⟨(List.replicate n.toNat z.cps).foldl (· ++ ·) #[]⟩ : Str) = repS z n.toNat := by
          unfold repS
          congr 1
          apply Array.ext'
          rw [str_fold]; simp
        refine ⟨?_, ⟨.str (repS z n.toNat), H, I.tok _, ⟨s.toks, by rw [ez]⟩, q⟩⟩
        · show _ ≤ _
          have e : ((List.replicate n.toNat z.cps).foldl (· ++ ·) #[]).toList.length = n.toNat * z.cps.toList.length := by rw [str_fold]; simp
          have : ((List.replicate n.toNat z.cps).foldl (· ++ ·) #[]).size ≤ 1000000 := by
            rw [← Array.length_toList, e, Nat.mul_comm]; exact h2
          exact Nat.le_trans this (by decide)
end Ab
namespace Ab
open PySem PySem.Spec PyProof.Rows L2 TL
theorem cx_K {CX : CXT} {P : Program} {w : World} {K : PySem.W.Frag} {mg : Str → Option Value} {base : Heap} {N : List Str} {qual : Str} {scope : Scope} {f : Addr} {cd : Value} {A : Around} {outer : List Env} {s : Shared} {H : Hp} {E : XK} :
    (cxOf CX P w K mg base N qual scope f cd A outer s H E).K = K := rfl
theorem cx_Kn {CX : CXT} {P : Program} {w : World} {K : PySem.W.Frag} {mg : Str → Option Value} {base : Heap} {N : List Str} {qual : Str} {scope : Scope} {f : Addr} {cd : Value} {A : Around} {outer : List Env} {s : Shared} {H : Hp} {E : XK} :
    (Cx.nox (cxOf CX P w K mg base N qual scope f cd A outer s H E)).K = K := rfl
theorem scal_ii {i j : Int} : scal (.int i) (.int j) = true := rfl
theorem scal_ss {i j : Str} : scal (.str i) (.str j) = true := rfl
theorem scal_bb {i j : Bool} : scal (.bl i) (.bl j) = true := rfl
theorem scal_nn : scal .non .non = true := rfl
theorem scal_is {i : Int} {j : Str} : scal (.int i) (.str j) = true := rfl
theorem scal_si {i : Str} {j : Int} : scal (.str i) (.int j) = true := rfl
theorem start_eq (N : List Str) (vs : List V) : L2.start N vs = vs.map some ++ List.replicate (N.length - vs.length) none := rfl
/-! ### texts as lists of codes -/
abbrev cs (z : Str) : List Nat := z.cps.toList
theorem repS_mem {z : Str} {n c : Nat} (h : c ∈ cs (repS z n)) : c ∈ cs z := by
  have h' : c ∈ (List.replicate n z.cps.toList).flatten := by simpa [cs, repS] using h
  obtain ⟨l, hl, hc⟩ := List.mem_flatten.mp h'
  rw [(List.mem_replicate.mp hl).2] at hc
  exact hc
theorem cs_len (z : Str) : z.length = (cs z).length := by show z.cps.size = _; simp
theorem cs_app (a b : Str) : cs (a ++ b) = cs a ++ cs b := by
  show (a.cps ++ b.cps).toList = _
  simp
theorem cs_app_len (a b : Str) : (cs (a ++ b)).length = (cs a).length + (cs b).length := by rw [cs_app, List.length_append]
theorem cs_inj {a b : Str} (h : cs a = cs b) : a = b := by
  cases a; cases b
  have : (⟨_⟩ : Str) = ⟨_⟩ := congrArg PySem.Str.mk (Array.ext' h)
  exact this
theorem joinL_nil : ∀ ps : List (List Nat), joinL [] ps = ps.flatten
  | [] => rfl
  | [p] => by simp [joinL]
  | p :: q :: r => by
    show p ++ ([] ++ joinL [] (q :: r)) = _
    rw [joinL_nil (q :: r)]; simp
theorem cs_join0 (ys : List Str) : cs (Txt.join "" ys) = (ys.map cs).flatten := by
  rw [join_eq]
  have e := tl_join "" ys
  have e0 : tl ("" : Str) = [] := by decide +kernel
  rw [e0, joinL_nil] at e
  exact e
theorem strs_of {p : Str → Prop} : ∀ {ys : List V}, (∀ (i : Nat) y, ys[i]? = some y → ∃ z : Str, y = .str z ∧ p z) → ∃ zs : List Str, ys = zs.map V.str ∧ ∀ z ∈ zs, p z
  | [], _ => ⟨[], rfl, fun z h => by cases h⟩
  | y :: ys, h => by
    obtain ⟨z, e, hz⟩ := h 0 y rfl
    obtain ⟨zs, e2, h2⟩ := strs_of (ys := ys) fun i y' q => h (i + 1) y' (by simpa using q)
    refine ⟨z :: zs, by rw [e, e2]; rfl, fun u hu => ?_⟩
    rcases List.mem_cons.mp hu with rfl | hu
    · exact hz
    · exact h2 u hu
/-- pieces of one sign each -/
theorem ones_sum {L : List Nat} : ∀ {zs : List Str}, (∀ z ∈ zs, ∃ c ∈ L, z = ⟨#[c]⟩) → (zs.map (·.length)).sum = zs.length ∧ (zs.map cs).flatten.length = zs.length ∧ ∀ c ∈ (zs.map cs).flatten, c ∈ L
  | [], _ => ⟨rfl, rfl, fun c h => by cases h⟩
  | z :: zs, h => by
    obtain ⟨h1, h2, h3⟩ := ones_sum (zs := zs) fun u hu => h u (List.mem_cons_of_mem _ hu)
    obtain ⟨c, hc, e⟩ := h z (List.mem_cons_self ..)
    subst e
    refine ⟨?_, ?_, fun d hd => ?_⟩
    · rw [List.map_cons, List.sum_cons, h1, List.length_cons]
      show 1 + zs.length = zs.length + 1
      omega
    · rw [List.map_cons, List.flatten_cons, List.length_append, h2, List.length_cons]
      show 1 + zs.length = zs.length + 1
      omega
    · rw [List.map_cons, List.flatten_cons] at hd
      rcases List.mem_append.mp hd with hd | hd
      · have : d = c := by simpa using hd
        rw [this]; exact hc
      · exact h3 d hd
end Ab

set_option Elab.async false
set_option linter.all false
set_option maxRecDepth 100000
set_option maxHeartbeats 4000000
/-! AbC: comprehensions. -/
namespace Ab
open PySem PySem.Spec PyProof.Rows L2
/-- all that stands but what M names stays -/
def Fz (M : Addr → Prop) (H H' : Hp) : Prop := ∀ b o, ¬ M b → H b = some o → H' b = some o
theorem Fz.refl {M : Addr → Prop} {H : Hp} : Fz M H H := fun _ _ _ e => e
theorem Fz.trans {M : Addr → Prop} {H H1 H2 : Hp} (a : Fz M H H1) (b : Fz M H1 H2) : Fz M H H2 := fun x o n e => b x o n (a x o n e)
theorem Fz.keep {M : Addr → Prop} {H H' : Hp} {p : Addr} {o : HO} (e : Fz M H H') (h : H p = none) : Fz M H (upd H' p o) := fun a u n q => by
  rw [upd_ne (ne_of_none q h)]
  exact e a u n q
abbrev Mr (r : Addr) : Addr → Prop := fun b => b = r
abbrev M0 : Addr → Prop := fun _ => False
theorem Dr.fz {r : Addr} {H H' : Hp} (d : Dr r H H') : Fz (Mr r) H H' := fun b o n e => d.fx b o n e
theorem ex_fz {H H' : Hp} (d : Ex H H') : Fz M0 H H' := fun b o _ e => d b o e
theorem fz_ex {H H' : Hp} (d : Fz M0 H H') : Ex H H' := fun b o e => d b o (fun z => z) e
theorem fz_dr {r : Addr} {H H' : Hp} (d : Fz (Mr r) H H') (h : Rng r H') : Dr r H H' := ⟨fun b o n e => d b o n e, h⟩
/-- all that is new since B stays -/
def Kp (B H H' : Hp) : Prop := ∀ b o, B b = none → H b = some o → H' b = some o
theorem Kp.of_ex {B H H' : Hp} (e : Ex H H') : Kp B H H' := fun b o _ q => e b o q
theorem Kp.of_dr {r : Addr} {B H H' : Hp} (hr : B r ≠ none) (d : Dr r H H') : Kp B H H' := fun b o n q => d.fx b o (fun z => hr (z ▸ n)) q
theorem Kp.of_fz {M : Addr → Prop} {B H H' : Hp} (hm : ∀ b, M b → B b ≠ none) (d : Fz M H H') : Kp B H H' := fun b o n q => d b o (fun z => hm b z n) q
theorem upd_some {H : Hp} {a b : Addr} {o : HO} (h : H b ≠ none) : upd H a o b ≠ none := by
  unfold upd
  split
  · exact nofun
  · exact h
theorem upd_none {H : Hp} {a b : Addr} {o : HO} (h : upd H a o b = none) : b ≠ a ∧ H b = none := by
  unfold upd at h
  split at h
  · cases h
  · rename_i n; exact ⟨n, h⟩
/-- what is not in a later heap was not in the earlier one -/
theorem base_dr {r D : Addr} {H1 H : Hp} {o : HO} (d : Dr r H1 H) (hD : H D ≠ none) {b : Addr} (h : H b = none) : upd H1 D o b = none := by
  have n1 : b ≠ D := fun z => hD (z ▸ h)
  rw [upd_ne n1]
  cases e : H1 b with
  | none => rfl
  | some u =>
    have n2 : b ≠ r := (d.rg.ne h)
    rw [d.fx b u n2 e] at h
    cases h
theorem base_ex {D : Addr} {H1 H : Hp} {o : HO} (d : Ex H1 H) (hD : H D ≠ none) {b : Addr} (h : H b = none) : upd H1 D o b = none := by
  have n1 : b ≠ D := fun z => hD (z ▸ h)
  rw [upd_ne n1]
  exact d.free h
/-- a comprehension's reading behind its iterable -/
def LcF (J : It) (g : TG) (tt : TT) (te : TE) (vs : List Nat) (σ : L2.St) (H1 : Hp) (Q : VK) : Prop := ∀ D, H1 D = none → ∃ W : Nat → Nat → Hp → Prop, (∃ m, W 0 m (upd H1 D (.lst []))) ∧ ∀ i m H, W i m H →
  (J.stop i H ∧ Q (.ref D) H) ∨ (J.go i H ∧ ∃ Nx : Hp → Prop, (∀ H', Nx H' → ∃ m', m' < m ∧ W (i + 1) m' H') ∧ ∀ x H', J.yld i H x H' → g x (wipe σ vs) H' fun σ2 H2 => wipe σ2 vs = wipe σ vs ∧ tt σ2 H2 fun b H3 =>
    if b = true then te σ2 H3 fun y H4 => ∃ acc, H4 D = some (.lst acc) ∧ acc.length < sizeLine ∧ Nx (upd H4 D (.lst (acc ++ [y]))) else Nx H3)
theorem tLc_eq {wi : TI} {g : TG} {tt : TT} {te : TE} {vs : List Nat} {σ : L2.St} {H : Hp} {Q : VK} : tLc wi g tt te vs σ H Q = wi σ H fun J H1 => LcF J g tt te vs σ H1 Q := rfl
/-- a loop's reading behind its iterable -/
def ForF (J : It) (g : TG) (tb : TS) (D : Ends) (σ : L2.St) (H1 : Hp) : Prop := ∃ W : Nat → Nat → L2.St → Hp → Prop, (∃ m, W 0 m σ H1) ∧ ∀ i m σ H, W i m σ H →
  (J.stop i H ∧ D.nx σ H) ∨ (J.go i H ∧ ∃ N : L2.St → Hp → Prop, (∀ σ' H', N σ' H' → ∃ m', m' < m ∧ W (i + 1) m' σ' H') ∧ ∀ x H', J.yld i H x H' → g x σ H' fun σ2 H2 => tb { D with nx := N, ct := N, bk := D.nx } σ2 H2)
theorem tFor_eq {wi : TI} {g : TG} {tb : TS} {D : Ends} {σ : L2.St} {H : Hp} : tFor wi g tb D σ H = wi σ H fun J H1 => ForF J g tb D σ H1 := rfl
theorem for_f {J : It} {n : Nat} {G : Hp → Prop} {Y : Nat → Hp → V → Hp → Prop} (w : Walk J n G Y) {g : TG} {tb : TS} {D : Ends} {σ : L2.St} {H : Hp} (Pv : Nat → L2.St → Hp → Prop) (h0 : Pv 0 σ H) (hG : ∀ i σ H, i ≤ n → Pv i σ H → G H)
    (hs : ∀ i x σ H H', i < n → Pv i σ H → Y i H x H' → g x σ H' fun σ2 H2 => tb { D with nx := Pv (i + 1), ct := Pv (i + 1), bk := D.nx } σ2 H2) (hd : ∀ σ H, Pv n σ H → D.nx σ H) : ForF J g tb D σ H := for_it w Pv h0 hG hs hd
/-- a comprehension without a test, over anything that is walked -/
theorem lc_f {J : It} {n : Nat} {G : Hp → Prop} {Y : Nat → Hp → V → Hp → Prop} (w : Walk J n G Y) {g : TG} {te : TE} {vs : List Nat} {σ : L2.St} {H1 : Hp} {Q : VK}
    {M : Addr → Prop} {I : Hp → Prop} (hM : ∀ b, M b → H1 b ≠ none) (hI : ∀ H D o, H1 D = none → I H → I (upd H D o)) (I1 : I H1)
    (hG : ∀ H, Fz M H1 H → I H → G H) (hn : n < sizeLine) (E : Nat → Hp → Hp → V → Prop)
    (mono : ∀ i B H H' y, Kp B H H' → E i B H y → E i B H' y)
    (turn : ∀ D i x H H', i < n → H1 D = none → H D ≠ none → Fz M H1 H → I H → Y i H x H' → ∀ Qn : VK,
      (∀ y H4, Fz M H H4 → I H4 → E i (upd H1 D (.lst [])) H4 y → Qn y H4) → g x (wipe σ vs) H' fun σ2 H2 => wipe σ2 vs = wipe σ vs ∧ te σ2 H2 Qn)
    (done : ∀ D ys H, H1 D = none → Fz M H1 H → I H → H D = some (.lst ys) → ys.length = n → (∀ i y, ys[i]? = some y → E i (upd H1 D (.lst [])) H y) → Q (.ref D) H) :
    LcF J g tYes te vs σ H1 Q := by
  intro D hD
  have nM : ¬ M D := fun z => hM D z hD
  refine lc_it w (Qd := fun H => Q (.ref D) H) (fun i H => Fz M H1 H ∧ I H ∧ ∃ ys, H D = some (.lst ys) ∧ ys.length = i ∧ ∀ j y, ys[j]? = some y → E j (upd H1 D (.lst [])) H y)
    ⟨Fz.refl.keep hD, hI _ _ _ hD I1, [], upd_same, rfl, fun j y e => by simp at e⟩ (fun i H _ p => hG H p.1 p.2.1) ?_ ?_
  · rintro i x H H' hi ⟨p1, p2, ys, p3, p4, p5⟩ hY
    refine turn D i x H H' hi hD (by rw [p3]; exact nofun) p1 p2 hY (fun y H4 => ∃ acc, H4 D = some (.lst acc) ∧ acc.length < sizeLine ∧ (Fz M H1 (upd H4 D (.lst (acc ++ [y]))) ∧ I (upd H4 D (.lst (acc ++ [y]))) ∧
      ∃ ys, upd H4 D (.lst (acc ++ [y])) D = some (.lst ys) ∧ ys.length = i + 1 ∧ ∀ j z, ys[j]? = some z → E j (upd H1 D (.lst [])) (upd H4 D (.lst (acc ++ [y]))) z)) fun y H4 r1 r2 r3 => ?_
    have hD4 : H4 D = some (.lst ys) := r1 D _ nM p3
    have kp : Kp (upd H1 D (.lst [])) H H4 := Kp.of_fz (fun b z => upd_some (hM b z)) r1
    have kp2 : Kp (upd H1 D (.lst [])) H4 (upd H4 D (.lst (ys ++ [y]))) := fun b o z e => by
      rw [upd_ne (upd_none z).1]; exact e
    refine ⟨ys, hD4, by omega, (p1.trans r1).keep hD, hI _ _ _ hD r2, ys ++ [y], upd_same, by simp [p4], fun j z e => ?_⟩
    rcases Nat.lt_or_ge j ys.length with hj | hj
    · rw [List.getElem?_append_left hj] at e
      exact mono _ _ _ _ _ kp2 (mono _ _ _ _ _ kp (p5 j z e))
    · rw [List.getElem?_append_right hj] at e
      have e2 : j - ys.length = 0 := by
        rcases Nat.eq_zero_or_pos (j - ys.length) with h | h
        · exact h
        · rw [List.getElem?_eq_none (by simp; omega)] at e; cases e
      have e3 : z = y := by rw [e2] at e; simpa using e.symm
      have e4 : j = i := by omega
      subst e3 e4
      exact mono _ _ _ _ _ kp2 r3
  · rintro H ⟨p1, p2, ys, p3, p4, p5⟩
    exact done D ys H hD p1 p2 p3 p4 p5
/-! ### the walks -/
section
variable {K : PySem.W.Frag} {te : TE} {g : TG} {j : Nat} {vs : List Nat} {σ : L2.St} {H : Hp} {Q : VK}
/-- things being drawn, over anything -/
theorem lc_dr {J : It} {n : Nat} {G : Hp → Prop} {Y : Nat → Hp → V → Hp → Prop} (w : Walk J n G Y) {r : Addr} (hR : Rng r H) (hG : ∀ H', Dr r H H' → G H') (hn : n ≤ 100000)
    (E : Nat → Hp → Hp → V → Prop) (mono : ∀ i B H H' y, Kp B H H' → E i B H y → E i B H' y)
    (turn : ∀ D i x H' H2, i < n → H D = none → H' D ≠ none → Dr r H H' → Y i H' x H2 → ∀ Qn : VK, (∀ y H4, Dr r H' H4 → E i (upd H D (.lst [])) H4 y → Qn y H4) →
      g x (wipe σ vs) H2 fun σ2 H3 => wipe σ2 vs = wipe σ vs ∧ te σ2 H3 Qn)
    (done : ∀ D ys H', H D = none → Dr r H H' → H' D = some (.lst ys) → ys.length = n → (∀ i y, ys[i]? = some y → E i (upd H D (.lst [])) H' y) → Q (.ref D) H') :
    LcF J g tYes te vs σ H Q := by
  refine lc_f (M := Mr r) (I := Rng r) w (fun b z => ?_) (fun H' D o n h => ?_) hR (fun H' f i => hG H' (fz_dr f i)) (Nat.lt_of_le_of_lt hn (by decide)) E mono (fun D i x H2 H' hi hD hD2 f hI hY Qn k => ?_)
    fun D ys H' hD f hI hy hl he => done D ys H' hD (fz_dr f hI) hy hl he
  · obtain ⟨a, b', h1, _⟩ := hR
    rw [z, h1]
    exact nofun
  · obtain ⟨x, y, h1, h2⟩ := h
    exact ⟨x, y, by rw [upd_ne (hR.ne n).symm]; exact h1, h2⟩
  · exact turn D i x H2 H' hi hD hD2 (fz_dr f hI) hY Qn fun y H4 d e => k y H4 d.fz d.rg e
/-- nothing but new objects -/
theorem lc_ex {J : It} {n : Nat} {G : Hp → Prop} {Y : Nat → Hp → V → Hp → Prop} (w : Walk J n G Y) (hG : ∀ H', Ex H H' → G H') (hn : n ≤ 100000)
    (E : Nat → Hp → Hp → V → Prop) (mono : ∀ i B H H' y, Kp B H H' → E i B H y → E i B H' y)
    (turn : ∀ D i x H' H2, i < n → H D = none → H' D ≠ none → Ex H H' → Y i H' x H2 → ∀ Qn : VK, (∀ y H4, Ex H' H4 → E i (upd H D (.lst [])) H4 y → Qn y H4) →
      g x (wipe σ vs) H2 fun σ2 H3 => wipe σ2 vs = wipe σ vs ∧ te σ2 H3 Qn)
    (done : ∀ D ys H', H D = none → Ex H H' → H' D = some (.lst ys) → ys.length = n → (∀ i y, ys[i]? = some y → E i (upd H D (.lst [])) H' y) → Q (.ref D) H') :
    LcF J g tYes te vs σ H Q :=
  lc_f (M := M0) (I := fun _ => True) w (fun _ z => z.elim) (fun _ _ _ _ _ => trivial) trivial (fun H' f _ => hG H' (fz_ex f)) (Nat.lt_of_le_of_lt hn (by decide)) E mono
    (fun D i x H2 H' hi hD hD2 f _ hY Qn k => turn D i x H2 H' hi hD hD2 (fz_ex f) hY Qn fun y H4 d e => k y H4 (ex_fz d) trivial e)
    fun D ys H' hD f _ hy hl he => done D ys H' hD (fz_ex f) hy hl he
/-- the elements' values are known: f i -/
theorem lc_val {J : It} {n : Nat} {G : Hp → Prop} {Y : Nat → Hp → V → Hp → Prop} (w : Walk J n G Y) (hG : ∀ H', Ex H H' → G H') (hn : n ≤ 100000) (f : Nat → V)
    (turn : ∀ i x H' H2, i < n → Ex H H' → Y i H' x H2 → ∀ Qn : VK, (∀ H4, Ex H' H4 → Qn (f i) H4) →
      g x (wipe σ vs) H2 fun σ2 H3 => wipe σ2 vs = wipe σ vs ∧ te σ2 H3 Qn)
    (done : ∀ D H', H D = none → Ex H H' → H' D = some (.lst ((List.range n).map f)) → Q (.ref D) H') :
    LcF J g tYes te vs σ H Q := by
  refine lc_ex w hG hn (fun i _ _ y => y = f i) (fun _ _ _ _ _ _ e => e) (fun D i x H' H2 hi _ _ e hY Qn k => turn i x H' H2 hi e hY Qn fun H4 d => k _ H4 d rfl) fun D ys H' hD e hy hl he => done D H' hD e ?_
  rw [hy]
  congr 2
  apply List.ext_getElem?
  intro i
  by_cases hi : i < n
  · have h1 : i < ys.length := by omega
    have := he i ys[i] (by simp [h1])
    simp [h1, hi, this]
  · rw [List.getElem?_eq_none (by omega), List.getElem?_eq_none (by simp; omega)]
end
end Ab

set_option Elab.async false
set_option linter.all false
set_option maxRecDepth 100000
set_option maxHeartbeats 4000000
/-! AbD: further facts of the head, as Bools. -/
namespace Ab
open PySem PySem.Spec PyProof.Rows L2 He
/-- isinstance of an own class's instance and a built-in class: no -/
def kitF (K : PySem.W.Frag) (x : Str) (T : String) : Bool := decide (PySem.W.kitOne K (.ref (ga K x)) (.type T) = some false)
/-- what isinstance asks of an own class -/
def insB (K : PySem.W.Frag) (x : Str) : Bool := eqO (PySem.W.findIn K (.ref (ga K x)) "__class__") (some (some (.builtin "object.__class__"))) &&
  (eqO (PySem.W.specialIn K (.builtin "object.__class__") "__get__") (some (some (.builtin "getset_descriptor.__get__"))) && (decide (PySem.W.takesIn K (.builtin "object.__class__") = some true) &&
  decide (PySem.W.mroIn K (ga K x) (.type "object") = some true)))
theorem insB_ok {K : PySem.W.Frag} {x : Str} (h : insB K x = true) (c : Cls K (ga K x)) {H : Hp} {a dx : Addr} {fs : List (Str × V)} (e : H a = some (.ins (ga K x) dx fs)) : TyX K H (.ref a) (.ref (ga K x)) := by
  obtain ⟨h1, h⟩ := ba h
  obtain ⟨h2, h⟩ := ba h
  obtain ⟨h3, h4⟩ := ba h
  exact .base (.ins e c (eqO_ok h1) (eqO_ok h2) (of_decide_eq_true h3) (of_decide_eq_true h4))
/-- the class's attributes are read plainly -/
def readB (K : PySem.W.Frag) (x : Str) : Bool := PySem.W.readsIn K (ga K x) (.type "type") && eqO (PySem.W.specialIn K (.ref (ga K x)) "__getattribute__") (some (some (.builtin "type.__getattribute__")))
theorem readB_ok {K : PySem.W.Frag} {x : Str} (h : readB K x = true) : ClX.CRead K (ga K x) (.type "type") := by
  obtain ⟨h1, h2⟩ := ba h
  exact ⟨h1, eqO_ok h2⟩
/-- C.f is a whole number -/
def cvalB (K : PySem.W.Frag) (x f : Str) (i : Int) : Bool := match PySem.W.findCls K (.ref (ga K x)) (.type "type") f with
  | some (.val (.int j _)) => decide (j = i)
  | _ => false
theorem cvalB_ok {K : PySem.W.Frag} {x f : Str} {i : Int} (h : cvalB K x f i = true) : ∃ u, ClX.CVal K (ga K x) (.type "type") f (.int i) u := by
  unfold cvalB at h
  split at h
  · rename_i j t e
    have : j = i := of_decide_eq_true h
    subst this
    exact ⟨_, e, ⟨t, rfl⟩⟩
  · cases h
end Ab

set_option Elab.async false
set_option linter.all false
set_option maxRecDepth 100000
set_option maxHeartbeats 4000000
/-! AbR: repr at the hand's level, also of lists with own objects within. -/
namespace Ab
open PySem PySem.Spec PyProof.Rows L2
/-- u shows as t in every heap over H0; as: the containers that are opened; d: units; k: room -/
def RepJ (X : Cx) (k d : Nat) (as : List Addr) (H0 : Hp) (u : Value) (t : Str) : Prop :=
  ∀ (n : Nat), n + t.length ≤ sizeLine → ∀ (A : Around) (g : List Code) (E : Value → Shared → Prop) (pins : List (Addr × Obj)) (σ : L2.St) (H : Hp) (s : Shared) (Q : Str → Shared → Prop),
    A.frames = X.A.frames → Room k A → A.guards = some g → (∀ b ∈ as, Clear g b) → A.units + d < cLine → Ex H0 H → Inv X pins σ H s →
    (∀ H' s', Ex H H' → Inv X pins σ H' s' → Q t s') → wpAny (model X.prog X.w) A (pyReprUnder n u) Q E s
section
variable {X : Cx} {k d : Nat} {as : List Addr} {H0 : Hp} {u : Value} {t : Str}
theorem RepJ.ex (h : RepJ X k d as H0 u t) {H1 : Hp} (e : Ex H0 H1) : RepJ X k d as H1 u t :=
  fun n hn A g E pins σ H s Q a1 a2 a3 a4 a5 a6 => h n hn A g E pins σ H s Q a1 a2 a3 a4 a5 (e.trans a6)
theorem RepJ.more (h : RepJ X k d as H0 u t) {bs : List Addr} (e : ∀ b ∈ as, b ∈ bs) : RepJ X k d bs H0 u t :=
  fun n hn A g E pins σ H s Q a1 a2 a3 a4 => h n hn A g E pins σ H s Q a1 a2 a3 fun b hb => a4 b (e b hb)
theorem RepJ.le (h : RepJ X k d as H0 u t) {k' d' : Nat} (e : k ≤ k') (e' : d ≤ d') : RepJ X k' d' as H0 u t :=
  fun n hn A g E pins σ H s Q a1 a2 a3 a4 a5 => h n hn A g E pins σ H s Q a1 (a2.mono e) a3 a4 (by omega)
/-- plain data -/
theorem RepJ.ofK (h : ∀ (pins : List (Addr × Obj)) (σ : L2.St) (H : Hp) (s : Shared), Ex H0 H → Inv X pins σ H s → ReprK X.prog X.w as s.heap d u t) : RepJ X k d as H0 u t :=
  fun n hn A g E pins σ H s Q _ _ hg hcl hu e I q => h pins σ H s e I n hn A g E s Q hg hcl hu (fun _ _ z => z) fun h' tk kp => q H _ (Same.refl _) (I.kept kp)
theorem RepJ.is (h : ReprIs X.prog X.w u t) : RepJ X k d [] H0 u t := .ofK fun _ _ _ _ _ _ => ReprK.of_is h _ _ _
/-- an instance, by its class's own def -/
theorem RepJ.own {a C dx f : Addr} {fs : List (Str × V)} {fd : FuncData} {ps : List Str} {sp : Sp} (F : Fq false X.prog X.w X.K X.mg X.base CX0 k f fd ps sp) (hb : Bw X.K fd ps 1 [] gPos)
    (hs : PySem.W.findIn X.K (.ref C) "__repr__" = some (some (.ref f))) (hf : PySem.W.isFn X.K (.ref f) = true)
    (h : ∀ H, Ex H0 H → H a = some (.ins C dx fs) ∧ sp [.ref a] H (fun v H' => v = .str t ∧ Ex H H') E0) : RepJ X k d [] H0 (.ref a) t := by
  intro n hn A g E pins σ H s Q hfr hr hg hcl hu e I q
  obtain ⟨ha, hsp⟩ := h H e
  obtain ⟨mA, J, _⟩ := ins_get I.hok ha
  obtain ⟨od, J, _⟩ := J.look
  refine wpAny_pyReprUnder_ref (by omega) ?_
  unfold pyReprObjUnder pyReprObjBy
  refine wpAny_bind (wpAny_cRoomFor hr.units0 ?_)
  refine wpAny_bind (wpAny_bind (J.type.here ((PySem.W.looks_findIn I.kIn hs).here ?_)))
  simp only [Option.isNone_some, Bool.false_eq_true, if_false]
  have e0 : Env0 X.prog X.w X.K X.mg X.base A X.stack s H := ⟨hfr.trans I.ok.frames, I.env0.mod, I.env0.bs, I.env0.bsz, I.env0.funs, I.env0.frf, I.env0.hok, I.env0.bare⟩
  obtain ⟨zs, hB, hV⟩ := hb s [.ref a] [] I.kIn rfl rfl
  have run : wpAny (model X.prog X.w) A (call (.ref f) [.ref a]) (fun r s' => ∃ tk H', r = .str t tk ∧ Ex H H' ∧ Inv X pins σ H' s') E s := by
    refine wpAny_call (codeAny_mono (F.go A X.stack s H _ _ _ _ E0 gd_false hr e0 hB (hV [.ref a] [] (.cons rfl .nil) .nil) hsp) fun r s' hq => ?_)
    cases r with
    | error _ => exact hq.elim
    | ok fl =>
      cases fl with
      | ret w' =>
        obtain ⟨v, H', I', r', rfl, ex⟩ := I.after hq
        obtain ⟨tk, rfl⟩ := r'
        exact ⟨tk, H', rfl, ex, I'⟩
      | _ => exact hq.elim
  simp only [callSpecialIfBoundBy?, bindSpecialIfBound?]
  refine wpAny_bind (wpAny_holding (wpAny_bind (wpAny_bind (wpAny_bind (J.type.here ((PySem.W.looks_findIn I.kIn hs).here ?_))))))
  refine wpAny_bind (wpAny_askSetting (wpAny_ite ?_))
  have fin : ∀ (Q' : Option Value → Shared → Prop), (∀ r s', (∃ tk H', r = .str t tk ∧ Ex H H' ∧ Inv X pins σ H' s') → Q' (some r) s') → wpAny (model X.prog X.w) A (call (.ref f) ([.ref a] ++ []) >>= fun v => pure (some v)) Q' E s := fun Q' h' =>
    wpAny_bind (wpAny_mono run (fun v s' z => wpAny_pure (h' v s' z)) fun _ _ z => z)
  split
  · refine wpAny_bind ((PySem.W.bind_fn I.kIn _ (beq_iff_eq.mp hf)).here (wpAny_pure ?_))
    refine fin _ fun r s' z => ?_
    obtain ⟨tk, H', rfl, ex, I'⟩ := z
    exact wpAny_bind (wpAny_isInstance (T := "str") (b := true) rfl isSubtype_str_str (wpAny_pure ⟨_, _, rfl, q H' s' ex I'⟩))
  · refine wpAny_tryCatch (wpAny_bind ((PySem.W.bind_fn I.kIn _ (beq_iff_eq.mp hf)).here (wpAny_pure ?_)))
    refine fin _ fun r s' z => ?_
    obtain ⟨tk, H', rfl, ex, I'⟩ := z
    exact wpAny_bind (wpAny_isInstance (T := "str") (b := true) rfl isSubtype_str_str (wpAny_pure ⟨_, _, rfl, q H' s' ex I'⟩))
end
/-! ### lists -/
section
variable {X : Cx} {k d n : Nat} {as : List Addr} {H0 : Hp} {a : Addr} {vs : List V} {ts : List Str} {A : Around} {g : List Code}
theorem loop_units (A : Around) (z : Args) : (A.under (.builtin "list.__repr__.loop" z)).units = A.units + 1 := units_under_list_loop A z
theorem loop_frames (A : Around) (z : Args) : (A.under (.builtin "list.__repr__.loop" z)).frames = A.frames := by
  first | rfl | simp [Around.under, Code.envs, Code.isFrame, pushEnvs]
theorem loop_depth (A : Around) (z : Args) : (A.under (.builtin "list.__repr__.loop" z)).depth ≤ A.depth + 1 := by
  first | exact Nat.le_refl _ | exact Nat.le_succ _ | simp [Around.under, Code.weight, Code.isCreation, Code.isGuard, Code.isCaller, Code.frames, Code.isFrame, guardIds]
theorem loop_handled (A : Around) (z : Args) : (A.under (.builtin "list.__repr__.loop" z)).handled = A.handled := by
  first | rfl | simp [Around.under]
theorem room_loop (r : Room (k + 1) A) (z : Args) : Room k (A.under (.builtin "list.__repr__.loop" z)) :=
  ⟨(loop_handled A z).trans r.hd, by have := r.dp; have := loop_depth A z; omega, by have := r.un; have := loop_units A z; omega⟩
/-- what the items come to -/
def Shw (X : Cx) (k d : Nat) (as : List Addr) (H0 : Hp) (vs : List V) (ts : List Str) : Prop :=
  ts.length = vs.length ∧ ∀ (i : Nat) (v : V), vs[i]? = some v → ∃ t, ts[i]? = some t ∧ ∀ u, RelV v u → RepJ X k d as H0 u t
theorem Shw.ex (h : Shw X k d as H0 vs ts) {H1 : Hp} (e : Ex H0 H1) : Shw X k d as H1 vs ts :=
  ⟨h.1, fun i v q => let ⟨t, h1, h2⟩ := h.2 i v q; ⟨t, h1, fun u r => (h2 u r).ex e⟩⟩
theorem Shw.nil : Shw X k d as H0 [] [] := ⟨rfl, fun i v q => by simp at q⟩
theorem Shw.cons {v : V} {t : Str} (h1 : ∀ u, RelV v u → RepJ X k d as H0 u t) (h2 : Shw X k d as H0 vs ts) : Shw X k d as H0 (v :: vs) (t :: ts) := by
  refine ⟨by simp [h2.1], fun i w q => ?_⟩
  cases i with
  | zero =>
    simp at q
    subst q
    exact ⟨t, rfl, h1⟩
  | succ i =>
    simp at q
    obtain ⟨t', e, r⟩ := h2.2 i w q
    exact ⟨t', by simpa using e, r⟩
def pO (acc : Array Value) (c : Nat) : Obj := { cls := .type "list", dict := none, data := .seq acc c, slots := #[] }
theorem vals_at : ∀ {xs : List V} {us : List Value} {i : Nat} {u : Value}, Vals xs us → us[i]? = some u → ∃ v, xs[i]? = some v ∧ RelV v u
  | _, _, i, u, .nil, e => by simp at e
  | _, _, 0, u, .cons r _, e => by
    simp at e
    subst e
    exact ⟨_, rfl, r⟩
  | _, _, i + 1, u, .cons _ q, e => by
    simp at e
    obtain ⟨v, h1, h2⟩ := vals_at q e
    exact ⟨v, by simpa using h1, h2⟩
open Builtin Builtin.List in
theorem rep_loop {P : Addr} {pins : List (Addr × Obj)} {σ : L2.St} {R : Result → Shared → Prop} (hne : a ≠ P) (rP : FbM.Rec X pins P) (hL : ∀ H, Ex H0 H → SqL X.K H a vs) (hfr : A.frames = X.A.frames) (hr : Room (k + 1) A)
    (hg : A.guards = some g) (hcl : ∀ b ∈ as, Clear g b) (hu : A.units + (d + 1) < cLine) (hna : a ∉ as) (hT : Shw X k d as H0 vs ts) (hsz : n + (listText ts).length ≤ sizeLine) :
    ∀ (m i : Nat) (s : Shared) (H : Hp) (acc : Array Value) (c : Nat) (done : List (Str × Tok)), vs.length - i = m → i ≤ vs.length → Ex H0 H → Inv X ((P, pO acc c) :: pins) σ H s →
      acc.toList = strValues done → done.map (·.1) = ts.take i → (∀ H' s' u, Ex H H' → Inv X pins σ H' s' → R (.ok (.ret (.str (listText ts) u))) s') →
      codeAny (model X.prog X.w) A (.builtin "list.__repr__.loop" ⟨[.ref a, rawInt i, .ref P, rawInt ((n + piled (ts.take i) : Nat) : Int)], []⟩) R s := by
  have z0 : (listText ts).length = (textFrom 0 "[" ts).length + 1 := by
    show (textFrom 0 "[" ts ++ "]").length = _
    rw [strLen_append]
    rfl
  have zL := textFrom_len ts 0 "["
  have z1 : vs.length ≤ sizeLine := by
    have h1 := zL.1
    rw [if_neg (Nat.lt_irrefl 0)] at h1
    have h2 := hT.1
    omega
  have z2 : ∀ t ∈ ts, t.length ≤ sizeLine := fun t ht => by
    have h2 := zL.2.1 t ht
    omega
  have z3 : (listText ts).length ≤ sizeLine := by omega
  have z4 := piled_le_listText ts
  intro m
  induction m with
  | zero =>
    intro i s H acc c done hm hi e0 I hacc hdone hR
    have hin : i = vs.length := by omega
    obtain ⟨its, rv, ⟨o, na, ho, hc, hd0, hd⟩, _⟩ := (ClX.unpin I).list (hL H e0)
    have hP := ClX.pin_at I
    refine codeAny_builtin F.entry_list_repr_loop ?_
    show wpAny _ _ («list.__repr__.loop» ⟨[.ref a, .int i 0, .ref P, .int ((n + piled (ts.take i) : Nat) : Int) 0], []⟩) _ _ s
    rw [repr_loop_tree]
    refine wpAny_bind (wpAny_listItems ho hd ?_)
    have q0 : its.toArray[(i : Int).toNat]? = none := by simp [hin, ← rv.length]
    simp only [q0]
    unfold reprEnd
    refine wpAny_bind (wpAny_listItems hP rfl ?_)
    rw [hacc, repr_fold]
    refine wpAny_bind (wpAny_pure ?_)
    have q1 : done.map (·.1) = ts := by rw [hdone, hin, ← hT.1, List.take_length]
    rw [q1]
    refine wpAny_bind (wpAny_mkStr (wpAny_pure ?_) z3)
    exact hR H _ _ (Same.refl _) ((ClX.unpin I).tok _)
  | succ m ih =>
    intro i s H acc c done hm hi e0 I hacc hdone hR
    have hlt : i < vs.length := by omega
    obtain ⟨its, rv, ⟨o, na, ho, hc, hd0, hd⟩, _⟩ := (ClX.unpin I).list (hL H e0)
    have hli : i < its.length := by rw [← rv.length]; exact hlt
    obtain ⟨v, hv, rvi⟩ := vals_at (i := i) (u := its[i]) rv (by simp [hli])
    obtain ⟨t, ht, hrep⟩ := hT.2 i v hv
    have hp1 := piled_take_succ ht
    have hp2 := piled_take_le ts (i + 1)
    refine codeAny_builtin F.entry_list_repr_loop ?_
    show wpAny _ _ («list.__repr__.loop» ⟨[.ref a, .int i 0, .ref P, .int ((n + piled (ts.take i) : Nat) : Int) 0], []⟩) _ _ s
    rw [repr_loop_tree]
    refine wpAny_bind (wpAny_listItems ho hd ?_)
    have q0 : its.toArray[(i : Int).toNat]? = some its[i] := by simp [hli]
    simp only [q0]
    rw [Int.toNat_natCast]
    refine wpAny_bind (wpAny_holding (hrep _ rvi (n + piled (ts.take i) + 1) (by omega) _ _ _ _ σ H s _ ((loop_frames _ _).trans hfr) (room_loop hr _) (guards_under_guard (isGuard_list_loop _) hg)
      (fun b hb => (hcl b hb).cons (a := a) fun e => hna (e ▸ hb)) (by rw [loop_units]; omega) e0 I fun H1 s1 ex1 I1 => ?_))
    refine wpAny_bind (wpAny_mkStr ?_ (z2 t (List.mem_of_getElem? ht)))
    refine wpAny_bind ?_
    show wpAny _ _ (updateSeq P _) _ _ _
    have hasz : acc.size ≤ sizeLine := by
      have e1 : acc.toList.length = acc.size := by simp
      have e2 : (strValues done).length = done.length := by simp [strValues]
      have e3 : done.length = (ts.take i).length := by rw [← hdone, List.length_map]
      have e4 : (ts.take i).length ≤ i := by rw [List.length_take]; omega
      rw [hacc] at e1
      omega
    have hP1 := ClX.pin_at I1
    refine wpAny_updateSeq hP1 rfl (wpAny_pure ⟨F.quiet_list_repr_loop _, ?_⟩) hasz
    have e1 : ((i : Int) + 1) = ((i + 1 : Nat) : Int) := by omega
    have e2 : n + piled (ts.take i) + (t.length + 2) = n + piled (ts.take (i + 1)) := by omega
    rw [e1, e2]
    have J : Inv X pins σ H1 { s1 with heap := s1.heap.update P (Obj.mapSeq fun x => x.push (.str t s1.toks)), toks := s1.toks + 1 } :=
      rP.turn (ClX.unpin I1) (ClX.pin_un I1) fun b o hb e => (Heap.get?_update_other _ _ fun h : P = b => hb h.symm).trans e
    have pinP := I1.pin (P, pO acc c) (List.mem_append_right _ List.mem_cons_self)
    have hP2 := Heap.get?_update_self (Obj.mapSeq fun x => x.push (.str t s1.toks)) hP1 rfl
    have J2 : Inv X ((P, Obj.mapSeq (fun x => x.push (.str t s1.toks)) (pO acc c)) :: pins) σ H1 { s1 with heap := s1.heap.update P (Obj.mapSeq fun x => x.push (.str t s1.toks)), toks := s1.toks + 1 } := by
      refine J.pins_of fun p hp => ?_
      rcases List.mem_cons.mp hp with e | e
      · subst e
        exact ⟨hP2, pinP.2.1, pinP.2.2.1, pinP.2.2.2.1, fun v z => nomatch z⟩
      · exact J.pin p (List.mem_append_right _ e)
    exact ih (i + 1) _ H1 (acc.push (.str t s1.toks)) _ (done ++ [(t, s1.toks)]) (by omega) hlt (e0.trans ex1) J2 (by simp [hacc, strValues]) (by simp [List.take_add_one, ht, hdone]) fun H' s' u e' I' => hR H' s' u (ex1.trans e') I'
open Builtin Builtin.List in
theorem rep_at {pins : List (Addr × Obj)} {σ : L2.St} {H : Hp} {s : Shared} {R : Result → Shared → Prop} (h0 : vs ≠ []) (hL : ∀ H, Ex H0 H → SqL X.K H a vs) (hfr : A.frames = X.A.frames) (hr : Room (k + 1) A)
    (hg : A.guards = some g) (hca : Clear g a) (hcl : ∀ b ∈ as, Clear g b) (hu : A.units + (d + 1) < cLine) (hna : a ∉ as) (hT : Shw X k d as H0 vs ts) (hsz : n + (listText ts).length ≤ sizeLine) (e0 : Ex H0 H) (I : Inv X pins σ H s)
    (hR : ∀ H' s' u, Ex H H' → Inv X pins σ H' s' → R (.ok (.ret (.str (listText ts) u))) s') :
    wpAny (model X.prog X.w) A.in1 (Builtin.listReprAt n ⟨[.ref a], []⟩) (fun fin s' => match fin with | .done f => R (.ok f) s' | .again c' => c'.quiet = true ∧ codeAny (model X.prog X.w) A c' R s') (fun e s' => R (.error e) s') s := by
  obtain ⟨its, rv, ⟨o, na, ho, hc, hd0, hd⟩, _⟩ := I.list (hL H e0)
  obtain ⟨x, l, rfl⟩ : ∃ x l, its = x :: l := by
    cases its with
    | nil => cases rv; exact absurd rfl h0
    | cons x l => exact ⟨x, l, rfl⟩
  refine wpAny_list_repr_head (A := A.in1) hg (fun v rest kw hm => listSameRef_of_ne (hca _ _ _ _ hm)) ho hd ?_
  refine wpAny_bind (m := newList []) (wpAny_newObj_type ?_)
  refine wpAny_pure ⟨F.quiet_list_repr_loop _, ?_⟩
  have J : Inv X ((s.heap.objs.size, pO #[] 0) :: pins) σ H { s with heap := s.heap.push (pO #[] 0) } :=
    ClX.pin_new (t' := s.toks) I (fun _ _ z => Heap.get?_push_of_some _ z) (Nat.le_refl _) (Heap.get?_push_size s.heap rfl) (fun v z => nomatch z)
  exact rep_loop (P := s.heap.objs.size) (pins := pins) (σ := σ) (Nat.ne_of_lt (Heap.lt_size ho)) (FbM.rec_new I (Nat.le_refl _)) hL hfr hr hg hcl hu hna hT hsz _ 0 _ H #[] 0 [] rfl (Nat.zero_le _) e0 J rfl (by simp) hR
/-- a list's repr, called -/
theorem call_rep {pins : List (Addr × Obj)} {σ : L2.St} {H : Hp} {s : Shared} {Q : Value → Shared → Prop} {E : Value → Shared → Prop} (h0 : vs ≠ []) (hL : ∀ H, Ex H0 H → SqL X.K H a vs) (hfr : A.frames = X.A.frames) (hr : Room (k + 1) A)
    (hg : A.guards = some g) (hca : Clear g a) (hcl : ∀ b ∈ as, Clear g b) (hu : A.units + (d + 1) < cLine) (hna : a ∉ as) (hT : Shw X k d as H0 vs ts) (hsz : (listText ts).length ≤ sizeLine) (e0 : Ex H0 H) (I : Inv X pins σ H s)
    (hQ : ∀ H' s' u, Ex H H' → Inv X pins σ H' s' → Q (.str (listText ts) u) s') : wpAny (model X.prog X.w) A (call (.builtin "list.__repr__") [.ref a]) Q E s := by
  obtain ⟨its, rv, ⟨o, na, ho, hc, hd0, hd⟩, _⟩ := I.list (hL H e0)
  exact wpAny_call (codeAny_call_builtin F.slot_list_repr.plain F.entry_list_repr (F.slot_list_repr.check _ _ _ _ _ _ _ _ ⟨o, ho, hc⟩ (F.args_list_repr_1 _)
    (rep_at (n := 0) (R := callEnd Q E) h0 hL hfr hr hg hca hcl hu hna hT (by omega) e0 I hQ)))
theorem RepJ.list (h0 : vs ≠ []) (hL : ∀ H, Ex H0 H → SqL X.K H a vs) (hna : a ∉ as) (hT : Shw X k d as H0 vs ts) : RepJ X (k + 1) (d + 1) (a :: as) H0 (.ref a) (listText ts) := by
  intro n hn A g E pins σ H s Q hfr hr hg hcl hu e I q
  obtain ⟨its, rv, ⟨o, na, ho, hc, hd0, hd⟩, _⟩ := I.list (hL H e)
  refine wpAny_pyReprUnder_ref (by omega) (wpAny_pyReprObjUnder_twin (twin := "list.__repr__.under") ⟨o, ho, hc⟩ F.slot_list_repr.toG rfl (by omega) ?_)
  refine call_twin_plain F.plain_list_repr_under F.entry_list_repr_under F.check_list_repr_under ⟨o, ho, hc⟩ F.slot_list_repr.toG (F.args_list_repr_1 _) ?_
  exact rep_at (R := callEnd _ E) h0 hL hfr hr hg (hcl a (.head _)) (fun b hb => hcl b (.tail _ hb)) hu hna hT hn e I fun H' s' u ex I' => ⟨⟨_, _, rfl⟩, _, _, rfl, q H' s' ex I'⟩
/-- repr of a list -/
def rReprL (X : Cx) (k d : Nat) (xs : List V) (H : Hp) (Q : VK) : Prop := ∃ (a : Addr) (vs : List V) (as : List Addr) (ts : List Str), xs = [.ref a] ∧ vs ≠ [] ∧ H a = some (.lst vs) ∧ a ∉ as ∧ Shw X k d as H vs ts ∧ (listText ts).length ≤ sizeLine ∧
  ∀ H', Ex H H' → Q (.str (listText ts)) H'
theorem call_repr (hg : X.A.guards = some []) (hr : Room (k + 2) X.A) (hd : d ≤ 100) : CallR X (.builtin "repr") (rReprL X k d) := by
  intro pins s σ H xs us Q I r h
  obtain ⟨a, vs, as, ts, rfl, h0, ha, hna, hT, hsz, q⟩ := h
  obtain ⟨u, rfl, ru⟩ := vals1 r
  cases ru
  have hL : ∀ H', Ex H H' → SqL X.K H' a vs := fun H' e => SqL.of (e _ _ ha)
  obtain ⟨its, rv, ⟨o, na, ho, hc, hd0, hd'⟩, _⟩ := I.list (hL H (Same.refl _))
  have hun := hr.un
  refine call_repr_slot (by omega) ⟨o, ho, hc⟩ F.slot_list_repr.toG ?_
  exact call_rep (g := []) (X := X) h0 hL rfl hr.in1 hg (Clear.nil _) (fun b _ => Clear.nil b) (show X.A.units + 1 + (d + 1) < cLine by omega) hna hT hsz (Same.refl _) I fun H' s' u ex I' => ⟨_, _, rfl, .str (listText ts), H', I', ⟨_, rfl⟩, q H' ex⟩
end
theorem call_repr_str {X : Cx} : CallR X (.builtin "repr") (fun xs H Q => ∃ z : Str, xs = [.str z] ∧ (reprText z).length ≤ sizeLine ∧ Q (.str (reprText z)) H) := by
  intro pins s σ H xs us Q I r h
  obtain ⟨z, rfl, hz, q⟩ := h
  obtain ⟨u, rfl, t, rfl⟩ := vals1 r
  exact PySem.P.repr_of_str ⟨.str _, H, I.tok _, ⟨_, rfl⟩, q⟩ hz
/-! ### flat values, and containers of them -/
def flT : V → Str
  | .non => "None"
  | .bl b => (if b then "True" else "False" : String)
  | .int i => (toString i : String)
  | .str z => reprText z
  | _ => ""
def FlV : V → Prop
  | .non => True
  | .bl _ => True
  | .int i => i.natAbs.log2 < 1920
  | .str z => (reprText z).length ≤ 5000
  | _ => False
section
variable {X : Cx} {k d : Nat} {H0 : Hp} {a : Addr} {prog : Program} {w : World}
theorem fl_is {v : V} {u : Value} (h : FlV v) (r : RelV v u) : ReprIs prog w u (flT v) := by
  cases v with
  | non => cases r; exact ReprIs.none
  | bl b =>
    cases r
    cases b <;> exact ReprIs.bool _
  | int i => obtain ⟨t, rfl⟩ := r; exact ReprIs.int t h
  | str z => obtain ⟨t, rfl⟩ := r; exact ReprIs.str z t (Nat.le_trans h (by decide))
  | _ => exact h.elim
theorem RepJ.flat {v : V} (h : FlV v) : ∀ u, RelV v u → RepJ X k d [] H0 u (flT v) := fun _ r => .is (fl_is h r)
theorem Shw.flat {as : List Addr} : ∀ {vs : List V}, (∀ v ∈ vs, FlV v) → Shw X k d as H0 vs (vs.map flT)
  | [], _ => .nil
  | v :: vs, h => .cons (fun u r => (RepJ.flat (h v List.mem_cons_self) u r).more fun b hb => nomatch hb) (Shw.flat fun x hx => h x (List.mem_cons_of_mem _ hx))
theorem RepJ.nilL (h : H0 a = some (.lst [])) : RepJ X k d [] H0 (.ref a) "[]" := .ofK fun pins σ H s e I => by
  obtain ⟨its, rv, ⟨o, na, ho, hc, hd0, hd⟩, _⟩ := I.list (SqL.of (K := X.K) (e _ _ h))
  cases rv
  exact ReprK.listEmpty ho hc hd
theorem RepJ.flatL {vs : List V} (h : H0 a = some (.lst vs)) (h0 : vs ≠ []) (hf : ∀ v ∈ vs, FlV v) : RepJ X (k + 1) (d + 1) [a] H0 (.ref a) (listText (vs.map flT)) :=
  .list h0 (fun H e => SqL.of (e _ _ h)) (fun z => nomatch z) (.flat hf)
theorem all_flat {as : List Addr} {h₀ : Heap} : ∀ {vs : List V} {us : List Value}, Vals vs us → (∀ v ∈ vs, FlV v) → ReprAllK prog w as h₀ d us (vs.map flT)
  | _, _, .nil, _ => .nil
  | _, _, .cons r q, h => .cons (ReprK.of_is (fl_is (h _ List.mem_cons_self) r) _ _ _) (all_flat q fun x hx => h x (List.mem_cons_of_mem _ hx))
theorem RepJ.flatT {vs : List V} (h : H0 a = some (.tup vs)) (hf : ∀ v ∈ vs, FlV v) : RepJ X k (d + 1) [a] H0 (.ref a) (tupleText (vs.map flT)) := .ofK fun pins σ H s e I => by
  obtain ⟨its, rv, ⟨o, ho, hc, n, hd⟩, _⟩ := I.tuple (SqT.of (K := X.K) (e _ _ h))
  exact ReprK.tuple ho hc hd (fun z => nomatch z) (all_flat (by simpa using rv) hf)
def kvT (p : Key × V) : Str := flT (kV p.1) ++ ": " ++ flT p.2
theorem ents_flat {as : List Addr} {h₀ : Heap} : ∀ {kvs : List (Key × V)} {ws : List (Key × Value)} {es : List DictEntry}, KV kvs ws → Pairs (mixKind prog w) es ws → (∀ p ∈ kvs, FlV (kV p.1) ∧ FlV p.2) → ReprEntriesK prog w as h₀ d es (kvs.map kvT)
  | _, _, _, .nil, .nil, _ => .nil
  | p :: _, q :: _, e :: _, .cons r rs, .cons h1 h2 h3, h => by
    refine .cons (ReprK.of_is (fl_is (h _ List.mem_cons_self).1 ?_) _ _ _) (ReprK.of_is (fl_is (h _ List.mem_cons_self).2 ?_) _ _ _) (ents_flat rs h3 fun x hx => h x (List.mem_cons_of_mem _ hx))
    · rw [r.1]
      rcases keyIs_shape h1 with ⟨i, t, e1, e2⟩ | ⟨x, t, e1, e2⟩
      · rw [e1, e2]; exact ⟨t, rfl⟩
      · rw [e1, e2]; exact ⟨t, rfl⟩
    · rw [h2]
      exact r.2
theorem RepJ.flatD {kvs : List (Key × V)} (h : H0 a = some (.dK kvs)) (hf : ∀ p ∈ kvs, FlV (kV p.1) ∧ FlV p.2) : RepJ X k (d + 1) [a] H0 (.ref a) (dictText (kvs.map kvT)) := .ofK fun pins σ H s e I => by
  obtain ⟨_, hs, ws, rw', o, es, ep, ho, hx, hd, _, hp, _⟩ := dk_of I.hok (e _ _ h)
  exact ReprK.dict ho hx.1 hd hs (fun z => nomatch z) (ents_flat rw' hp hf)
end
end Ab

set_option Elab.async false
set_option linter.all false
set_option maxRecDepth 100000
set_option maxHeartbeats 4000000
/-! AbE: the law's def called by the head, no repr running around. -/
namespace Ab
open PySem PySem.Spec PyProof.Rows L2
section
variable {P : Program} {w : World} {K : PySem.W.Frag} {mg mb : Str → Option Value} {k : Nat} {f a : Addr} {fd : FuncData} {x : Str} {sp : Sp} {s1 : Shared} {us : List Value} {ns : List Int}
/-- nothing but the script is tracked -/
structure Alone (K : PySem.W.Frag) (P : Program) (w : World) (H : Hp) (a : Addr) (ns : List Int) (h : Heap) : Prop where
  only : Only H
  seq : SqL K H a (ns.map V.int)
  ok : HOk P w H h
  at_ : ∀ b u, H b = some u → b = a ∧ K.lookup a = none
theorem alone (KX : K.In s1.heap) (ha : s1.heap.get? a = some { cls := .type "list", data := .seq us.toArray }) (hi : IntsAre us ns) (hl : ns.length ≤ sizeLine) : ∃ H, Alone K P w H a ns s1.heap := by
  have rv := vals_ints hi
  have lenU := hi.length
  cases hk : K.lookup a with
  | some o =>
    have e := KX a o hk
    rw [ha] at e
    cases e
    refine ⟨fun _ => none, fun _ => .inl rfl, .inr ⟨_, us.toArray, _, hk, rfl, rfl, rfl, ?_, by simpa using rv⟩, fun b u z => ?_, fun b u z => ?_⟩
    · rw [List.size_toArray, lenU]
      exact hl
    · exact absurd (show (none : Option HO) = some u from z) nofun
    · exact absurd (show (none : Option HO) = some u from z) nofun
  | none =>
    let ob : Obj := { cls := .type "list", data := .seq us.toArray }
    have at1 : ∀ b u, (if b = a then some (HO.frz ob (.lst (ns.map V.int))) else none) = some u → b = a ∧ u = .frz ob (.lst (ns.map V.int)) := fun b u z => by
      split at z
      · rename_i q
        exact ⟨q, (Option.some.inj z).symm⟩
      · cases z
    refine ⟨fun b => if b = a then some (.frz ob (.lst (ns.map V.int))) else none, fun b => ?_, .inl (.inr ⟨ob, if_pos rfl⟩), fun b u z => ?_, fun b u z => ⟨(at1 b u z).1, hk⟩⟩
    · by_cases q : b = a
      · exact .inr ⟨ob, _, if_pos q⟩
      · exact .inl (if_neg q)
    · obtain ⟨rfl, rfl⟩ := at1 b u z
      exact ⟨ha, by rw [List.length_map]; exact hl, us, _, rv, ha⟩
theorem law_q (KX : K.In s1.heap) (hns : s1.heap.Ns mainGlobals mg) (hb : s1.heap.Ns builtinsNs mb) (hbb : ∀ y : Str, y ≠ "__name__" → mb y = bootBuiltins y) (hlim : s1.heap.NoLimit) (hg : s1.gens = #[])
    (ha : s1.heap.get? a = some { cls := .type "list", data := .seq us.toArray }) (hi : IntsAre us ns) (hl : ns.length ≤ sizeLine) (hr : Room k callerA)
    (F : ∀ base : Heap, K.In base → base.Ns mainGlobals mg → Fq true P w K mg base CX0 k f fd [x] sp) (hbind : ∀ (s : Shared) (u : Value), BindsTo s fd ⟨[u], []⟩ [(x, u)])
    (hsp : ∀ H : Hp, SqL K H a (ns.map V.int) → sp [.ref a] H (fun v _ => v = .bl true) E0) :
    codeAny (model P w) callerA (.call (.ref f) ⟨[.ref a], []⟩) (fun r s' => r = .ok (.ret (.bool true)) ∧ OldK s1.heap s'.heap ∧ s'.os = s1.os ∧ AllBare s'.gens) s1 := by
  obtain ⟨H, al⟩ := alone (P := P) (w := w) KX ha hi hl
  have out : ∀ {b : Addr} {o : Obj}, s1.heap.get? b = some o → H b = none → (hidT s1.heap H).get? b = some o := fun e n => hidT_get e n
  have dct : ∀ {b : Addr} {o : Obj} {es : Array DictEntry} {ep : Nat}, s1.heap.get? b = some o → o.data = .dict es ep → H b = none := fun {b o es ep} e d => by
    cases q : H b with
    | none => rfl
    | some u =>
      obtain ⟨rfl, _⟩ := al.at_ b u q
      rw [ha] at e
      cases e
      exact nomatch (show Data.seq us.toArray _ = Data.dict es ep from d)
  have nsK : ∀ {b : Addr} {m : Str → Option Value}, s1.heap.Ns b m → (hidT s1.heap H).Ns b m := fun ⟨o, es, ep, e, d, r⟩ => ⟨o, es, ep, out e (dct e d), d, r⟩
  have inK : K.In (hidT s1.heap H) := fun b o e => out (KX b o e) (by
    cases q : H b with
    | none => rfl
    | some u =>
      obtain ⟨rfl, z⟩ := al.at_ b u q
      rw [z] at e
      cases e)
  obtain ⟨mc, l1, l2⟩ := hlim
  have md : Mod K mg (hidT s1.heap H) := ⟨inK, nsK hns, ⟨mb, nsK hb, hbb⟩, mc, nsK l1, l2⟩
  have e0 : Env0 P w K mg (hidT s1.heap H) callerA [] s1 H := ⟨rfl, md, fun b o e => of_hidT e, Nat.le_of_eq (hidT_size _ _), trivial, fun b z => (nomatch (show b ∈ ([] : List Addr) from z)), al.ok, .of_eq hg⟩
  refine codeAny_mono ((F _ inK (nsK hns)).go callerA [] s1 H ⟨[.ref a], []⟩ [.ref a] [.ref a] _ _ (fun _ => rfl) hr e0 (hbind s1 (.ref a)) (.cons rfl .nil) (hsp H al.seq)) fun r s' h => ?_
  cases r with
  | error e => exact False.elim h
  | ok fl =>
    cases fl with
    | ret u =>
      obtain ⟨v, H', os, bare, un, hok', r', q⟩ := h
      obtain rfl : v = .bl true := q
      obtain rfl : u = Value.bool true := r'
      refine ⟨rfl, OldK.of_keep fun b o e => ?_, os, bare⟩
      rcases al.only b with z | ⟨ob, xs, z⟩
      · exact un.keep b o e z (fun y => (nomatch (show b ∈ ([] : List Addr) from y))) List.not_mem_nil
      · have e1 := (al.ok b _ z).1
        have e2 := (hok' b _ (un.frzs b ob _ z)).1
        rw [e] at e1
        cases e1
        exact e2
    | _ => exact False.elim h
end
/-- a function object has one datum -/
theorem fd_eq {K : PySem.W.Frag} {x qual x' qual' : Str} {params params' : Arguments} {body body' : List Stmt} {scope scope' : Scope} {dvs dvs' : List V} {kws kws' : List (Str × V)} {f : Addr} {fd fd' : FuncData}
    (F : FunD K x qual params body scope dvs kws f fd) (F' : FunD K x' qual' params' body' scope' dvs' kws' f fd') : fd' = fd := by
  obtain ⟨oc, od, dV, kV, doc, pm, an, cdv, ct, osl, rfl, lk, _⟩ := F.ex
  obtain ⟨oc', od', dV', kV', doc', pm', an', cdv', ct', osl', rfl, lk', _⟩ := F'.ex
  rw [lk] at lk'
  have e := Option.some.inj lk'
  injection e with _ _ e _
  injection e with e
  exact e.symm
/-- what the head leaves, from the law's def -/
theorem walk_q {l : PySem.W.OpenLaw} {n k : Nat} {q : Program} {loose : List Str} {XP : (Str → Option Value) → Heap → Prop} {YP : World → Heap → Prop} {d : DefRec} {x : Str}
    (hn : l.most = some n) (hn2 : n ≤ sizeLine) (hdf : d.params.defaults = []) (hr : Room k callerA)
    (F : ∀ (w : World) (mg : Str → Option Value) (f : Addr) (h : Heap), YP w h → h.Ns mainGlobals mg → mg d.name = some (.ref f) → ∃ (K : PySem.W.Frag) (fd : FuncData) (sp : Sp), K.In h ∧
      (∀ (s : Shared) (u : Value), BindsTo s fd ⟨[u], []⟩ [(x, u)]) ∧ (∀ (H : Hp) (a : Addr) (ns : List Int), ns.length ≤ n → SqL K H a (ns.map V.int) → sp [.ref a] H (fun v _ => v = .bl true) E0) ∧
      ∀ base : Heap, K.In base → base.Ns mainGlobals mg → Fq true l.prog w K mg base CX0 k f fd [x] sp) :
    PySem.W.WalkO q loose XP YP l.row.toRowW d [] (fun f vs => PySem.call f vs) := by
  refine Att.attach_call hn hdf fun w s0 s1 mg mb f o pm cd doc a us ns G Y ho hd hcd hmg hobj hints hlen hg => ?_
  obtain ⟨K, fd, sp, KX, hb, hsp, hF⟩ := F w mg f _ Y G.T.g hmg
  exact law_q KX G.T.g G.T.b G.T.builtins G.T.nolimit hg hobj hints (Nat.le_trans hlen hn2) hr hF hb fun H hS => hsp H a ns hlen hS
end Ab

set_option Elab.async false
set_option linter.all false
set_option maxRecDepth 100000
set_option maxHeartbeats 4000000
/-! AbX: own exceptions over ValueError, their __init__ with super().__init__('..'). -/
namespace Ab
open PySem PySem.Spec PyProof.Rows L2
/-! ### self.f as a target, self an exception that is being made -/
def gOst (K : PySem.W.Frag) (f : Str) (to : TE) : TG := fun v σ H Q => to σ H fun x H2 => ∃ a C : Addr, x = .ref a ∧ OexC K C ∧ PySem.W.findIn K (.ref C) f = some none ∧
  ((H2 a = some (exo a C none) ∧ ∀ dx, H2 dx = none → dx ≠ a → Q σ (upd (upd H2 dx (exd dx [(f, v)])) a (exo a C (some dx)))) ∨
    ∃ (dx : Addr) (fs : List (Str × V)), H2 a = some (exo a C (some dx)) ∧ H2 dx = some (exd dx fs) ∧ fs.length ≤ 900 ∧ Q σ (upd H2 dx (exd dx ((f, v) :: fs))))
theorem pg_ost {X : Cx} {o : Expr} {to : TE} {f : Str} {pos : Pos} (ho : PE X o to) : PG X (.Attribute o f pos) (gOst X.K f to) := by
  refine ⟨fun pins s σ H v u Q I r h => ?_⟩
  rw [assign_Attribute]
  refine wpAny_bind (wpAny_holding (thn (ho.run pins s σ H _ I h) fun ov s1 ⟨x, H2, I2, r2, a, C, ex, T, hno, q⟩ => ?_))
  subst ex
  obtain rfl : ov = Value.ref a := r2
  refine wpAny_bind (wpAny_standAt (wpAny_bind (wpAny_holding ?_)))
  rcases q with ⟨ea, q⟩ | ⟨dx, fs, ea, ed, hl, q⟩
  · exact ost_new T I2 ea hno r fun dx s' n ne J => wpAny_release ⟨σ, _, J, q dx n ne⟩
  · exact ost_old T I2 ea ed hl hno r fun s' J => wpAny_release ⟨σ, _, J, q⟩
/-! ### ValueError.__init__, bound -/
section
variable {X : Cx} {pins : List (Addr × Obj)} {σ : L2.St} {H : Hp} {s : Shared} {a C u : Addr} {A : Around} {E : Value → Shared → Prop}
theorem call_mw {rest : List Value} {Q : Value → Shared → Prop} (T : OexC X.K C) (I : Inv X ((u, PySem.W.kxs_mw "ValueError.__init__" a) :: pins) σ H s) (e : H a = some (exo a C none)) (hl : rest.length ≤ sizeLine)
    (h : ∀ s', Inv X pins σ H s' → Q .none s') : wpAny (model X.prog X.w) A (call (.ref u) rest) Q E s := by
  obtain ⟨nm, q, N, bs, bm, sn, sub, ab, col, dd, k0, k1, k2, k3, k5, hC, hbm⟩ := T.cls
  obtain ⟨t1, ho⟩ := exo_at I.hok e
  have hu := ClX.pin_at I
  have I0 := ClX.unpin I
  have hC' := I.kIn _ _ hC
  obtain ⟨hp, g, d, t, os⟩ := s
  refine wpAny_call (codeAny_of_tree ?_)
  show wpAny _ A.in1 (callAny (.ref u) ⟨rest, []⟩) _ _ _
  simp only [callAny]
  refine wpAny_bind (wpAny_load hu ?_)
  simp only [PySem.W.kxs_mw, show (Value.type "method-wrapper" == Value.type "method" || Value.type "method-wrapper" == Value.type "builtin_function_or_method" || Value.type "method-wrapper" == Value.type "method-wrapper") = true by decide, if_true]
  refine PySem.W.KFB.if_so (by decide) ?_
  refine wpAny_bind (ESX.check_bound F.excBase_ValueError hC' ho rfl ?_)
  refine wpAny_bind (wpAny_pure (wpAny_pure ?_))
  refine ⟨Code.quiet_builtin _ (by decide +kernel), codeAny_builtin F.excBase_ValueError.initEntry ?_⟩
  rw [Around.under_plainId F.excBase_ValueError.init.plain _]
  wp_walk
  have hx : ((hp.push (PySem.W.kdv_tup rest)).update a (Obj.mapFields fun z => z.setIfInBounds 0 (.ref hp.objs.size))).get? a = some ({ cls := .ref C, dict := none, data := .fields #[.ref hp.objs.size, .none, .none, .none, .bool false, .none] } : Obj) := by
    rw [Heap.get?_update_self _ (Heap.get?_push_of_some _ ho) rfl]
    rfl
  have J := I0.write (t' := t) (x := a) (e := a) (o := exo a C none) (by rw [e]; exact True.intro) (.inl rfl) (fun b o hb z => by rw [Heap.get?_update_other _ _ (Ne.symm hb)]; exact Heap.get?_push_of_some _ z) ⟨_, hx⟩ (exo_ok hx)
  have eu : upd H a (exo a C none) = H := by
    funext b
    by_cases hb : b = a
    · rw [hb, upd_same, e]
    · rw [upd_ne hb]
  rw [eu] at J
  exact h _ J
end
/-! ### a def with the cell of its class -/
abbrev fnC (x qual : Str) (params : Arguments) (body : List Stmt) (scope : Scope) (cc : Addr) (kV doc pm : Value) (an : Option Addr) (cdv ct : Value) : FuncData :=
  { PySem.W.fnOf x qual params body scope .none kV doc pm an cdv ct with closure := [("__class__", cc)] }
def cutFile : Str := "/claim/cut.py"
structure XFun (K : PySem.W.Frag) (d : He.DefD) (C : Addr) (fd : FuncData) : Prop where
  ex : ∃ (oc : Value) (od : Option Addr) (kV doc pm : Value) (an : Option Addr) (cda cc : Addr) (ct : Value) (osl : Array (Option Value)) (ccl : Value) (cdd : Option Addr) (vs : Array Value) (ccs : Array (Option Value)) (tf : Tok) (cl : Value) (cld : Option Addr) (csl : Array (Option Value)),
    fd = fnC d.name d.qual d.params d.body d.scope cc kV doc pm an (.ref cda) ct ∧ K.lookup (He.fAd K d.at_) = some ⟨oc, od, .func fd, osl⟩ ∧ PySem.W.codeIn K (.ref cda) d.qual = true ∧
    K.lookup cda = some ⟨ccl, cdd, .fields vs, ccs⟩ ∧ vs[2]? = some (.str cutFile tf) ∧ K.lookup cc = some ⟨cl, cld, .cell (some (.ref C)), csl⟩
/-- what is asked of the class -/
structure XCls (K : PySem.W.Frag) (C : Addr) : Prop where
  oex : OexC K C
  mro : PySem.W.mroIn K C (.ref C) = some true
  sup : PySem.W.ks_superIn K C C "__init__" = some (some (.builtin "ValueError.__init__"))
  sub : PySem.W.subIn K (.ref C) (.type "ValueError") = some true
  opq : PySem.W.nsIn K cStatics "thirdparty.any" = some none
/-- what is asked of the program -/
structure PFile (P : Program) : Prop where
  file : ((P.main.file : Str) == cutFile) = true
  sup : (P.main.scope.names.lookup ("super" : Str)).isSome = false
structure IScope (N ps : List Str) (sc : Scope) : Prop where
  kind : sc.kind = .function
  co : sc.isCoroutine = false
  gen : sc.isGenerator = false
  nd : N.Nodup
  pre : N.take ps.length = ps
  par : ∀ x ∈ ps, sc.names.lookup x = some .local
  nocell : ∀ y ∈ sc.names, y.2 ≠ .cell
  free : ∀ y ∈ sc.names, y.2 = .free → y.1 = "__class__"
  cls : sc.names.lookup ("__class__" : Str) = some .free
  sup : sc.names.lookup ("super" : Str) = some .globalImplicit
def envI (qual : Str) (scope : Scope) (L f cda cc : Addr) : Env :=
  { scope := scope, locals := L, globals := mainGlobals, cells := [("__class__", cc)], qual := qual ++ ".<locals>.", func := some f, code := .ref cda, frame := some L, builtins := builtinsNs }
def cxI (P : Program) (w : World) (K : PySem.W.Frag) (mg : Str → Option Value) (base : Heap) (N : List Str) (qual : Str) (scope : Scope) (f cda cc : Addr) (A : Around) (outer : List Env) (s : Shared) (H : Hp) : Cx where
  prog := P
  w := w
  K := K
  mg := mg
  base := base
  A := A.deeper (envI qual scope s.heap.objs.size f cda cc)
  N := N
  s_0 := s
  H_0 := H
  env := envI qual scope s.heap.objs.size f cda cc
  outer := outer
  stack := envI qual scope s.heap.objs.size f cda cc :: outer
  ex := []
  calm := true
  fn := fun _ => false
  pn := []
  xe := fun _ _ => False
theorem lookup_mem {β : Type} : ∀ {l : List (Str × β)} {k : Str} {v : β}, (l.map (·.1)).Nodup → (k, v) ∈ l → l.lookup k = some v
  | [], _, _, _, h => nomatch h
  | (k', v') :: l, k, v, nd, h => by
    rw [List.lookup_cons]
    rcases List.mem_cons.mp h with e | h
    · cases e
      simp
    · have nd' : k' ∉ l.map (·.1) ∧ (l.map (·.1)).Nodup := by simpa using nd
      have ne : k ≠ k' := fun e => nd'.1 (List.mem_map.mpr ⟨(k, v), h, e⟩)
      rw [show (k == k') = false from beq_eq_false_iff_ne.mpr ne]
      exact lookup_mem nd'.2 h
theorem zip_lookup {ps : List Str} {us : List Value} {i : Nat} {y : Str} {u : Value} (nd : ps.Nodup) (hl : ps.length = us.length) (hp : ps[i]? = some y) (hu : us[i]? = some u) : (ps.zip us).reverse.lookup y = some u := by
  refine lookup_mem ?_ ?_
  · have e : (ps.zip us).map (·.1) = ps := by
      have := List.map_fst_zip (l₁ := ps) (l₂ := us) (by omega)
      exact this
    rw [List.map_reverse, e]
    exact List.pairwise_reverse.mpr (nd.imp fun h => Ne.symm h)
  · rw [List.mem_reverse]
    refine List.mem_of_getElem? (i := i) ?_
    rw [List.getElem?_zip_eq_some]
    exact ⟨hp, hu⟩
theorem inv_i {P : Program} {w : World} {K : PySem.W.Frag} {mg : Str → Option Value} {base h0 : Heap} {N ps : List Str} {qual : Str} {scope : Scope} {f cda cc : Addr} {A : Around} {outer : List Env} {s : Shared} {H : Hp} {us : List Value} {vs : List V} {tk : Nat}
    {cl : Value} {cld : Option Addr} {csl : Array (Option Value)} {cv : Value}
    (S : IScope N ps scope) (hd : A.handled = none) (e0 : Env0 P w K mg base A outer s H) (hl : vs.length = ps.length) (r : Vals vs us) (hc : K.lookup cc = some ⟨cl, cld, .cell (some cv), csl⟩)
    (hns : h0.Ns s.heap.objs.size (fun x => (ps.zip us).reverse.lookup x)) (hk : ∀ b o, s.heap.get? b = some o → h0.get? b = some o) :
    Inv (cxI P w K mg base N qual scope f cda cc A outer s H) [] (start N vs) H { s with heap := h0, toks := tk } := by
  have hpl : ps.length ≤ N.length := by have := congrArg List.length S.pre; rw [List.length_take] at this; omega
  have no : ∀ b : Addr, b ∉ (cxI P w K mg base N qual scope f cda cc A outer s H).ex := fun b z => nomatch (show b ∈ ([] : List Addr) from z)
  have cell1 : ∀ {y : Str} {c : Addr}, (cxI P w K mg base N qual scope f cda cc A outer s H).env.cells.lookup y = some c → y = "__class__" ∧ c = cc := fun {y c} h => by
    have h' : ([("__class__", cc)] : List (Str × Addr)).lookup y = some c := h
    rw [List.lookup_cons] at h'
    by_cases e : y = "__class__"
    · rw [show (y == "__class__") = true from beq_iff_eq.mpr e] at h'
      exact ⟨e, (Option.some.inj h').symm⟩
    · rw [show (y == "__class__") = false from beq_eq_false_iff_ne.mpr e] at h'
      cases h'
  have hcb := e0.bs cc _ (e0.mod.kin _ _ hc)
  refine ⟨⟨e0.mod, S.kind, rfl, rfl, Nat.le_refl _, fun y z c h1 h2 => (cell1 h1).1.trans (cell1 h2).1.symm, fun y hy => ?_, fun y c h => (nomatch h), fun _ => hd, Around.frames_deeper e0.frames, .inr ⟨rfl, rfl⟩, fun b z => absurd z (no b), e0.bs, e0.bsz, fun b _ _ => no b, fun b z => absurd z (no b), e0.funs, e0.frf⟩,
    rfl, e0.bare, Un.kept hk, ⟨_, hns, fun i y v h1 h2 h3 => ?_⟩, fun y c h => ?_, e0.hok.fresh (Nat.le_refl _), fun y c h => ?_, fun p hp => (nomatch (show p ∈ ([] : List (Addr × Obj)) from hp)), e0.hok.kept hk, ?_⟩
  · have hy' : scope.names.lookup y = some .cell ∨ scope.names.lookup y = some .free := hy
    rcases hy' with z | z
    · exact absurd rfl (S.nocell _ (PySem.mem_of_lookup z))
    · have := S.free _ (PySem.mem_of_lookup z) rfl
      subst this
      exact ⟨cc, rfl⟩
  · have hi : i < vs.length := by
      unfold L2.start at h2
      by_cases hi : i < vs.length
      · exact hi
      · rw [List.getElem?_append_right (by simpa using hi), List.getElem?_replicate] at h2
        split at h2 <;> cases h2
    have ha : vs[i]? = some v := by
      unfold L2.start at h2
      rw [List.getElem?_append_left (by simpa using hi), List.getElem?_map] at h2
      cases e : vs[i]? with
      | none => rw [e] at h2; cases h2
      | some a => rw [e] at h2; cases h2; rfl
    obtain ⟨u, hu, rv⟩ := r.get ha
    have hp : ps[i]? = some y := by
      rw [← S.pre, List.getElem?_take_of_lt (by omega)]
      exact h1
    have ndP : ps.Nodup := by rw [← S.pre]; exact S.nd.sublist (List.take_sublist _ _)
    exact ⟨u, rv, .inl ⟨S.par y (List.mem_of_getElem? hp), zip_lookup ndP (by rw [← hl]; exact r.length) hp hu⟩⟩
  · obtain ⟨_, rfl⟩ := cell1 h
    exact ⟨_, _, hk _ _ hcb.1, rfl⟩
  · obtain ⟨_, rfl⟩ := cell1 h
    exact hcb.2
  · unfold L2.start
    show _ = N.length
    rw [List.length_append, List.length_map, List.length_replicate]
    omega
/-! ### super().__init__('..'), then the rest -/
section
variable {P : Program} {w : World} {K : PySem.W.Frag} {mg : Str → Option Value} {base : Heap} {N ps : List Str} {C : Addr} {d : He.DefD} {fd : FuncData} {k : Nat} {sp : Sp}
theorem XFun.ok {rest : List Stmt} {z : Str} {j : Nat} {p0 p1 p2 p3 p4 p5 : Pos} (F : XFun K d C fd) (S : IScope N ps d.scope) (T : XCls K C) (hP : PFile P) (hm : mg "super" = none)
    (hb : d.body = .Expr (.Call (.Attribute (.Call (.Name "super" p0) [] [] p1) "__init__" p2) [.Constant (.str z) j p3] [] p4) p5 :: rest)
    (he : ∀ env : Env, eval (.Call (.Attribute (.Call (.Name "super" p0) [] [] p1) "__init__" p2) [.Constant (.str z) j p3] [] p4) env = (do
      let ov ← attributeBase (.Call (.Name "super" p0) [] [] p1) "__init__" env (eval (.Call (.Name "super" p0) [] [] p1) env)
      standAt p2.atName
      let (f, first) ← holding [ov] (getMethod ov "__init__" (do return (← importBound (.Call (.Name "super" p0) [] [] p1) env).getD true))
      callWith p4 f first (backTo p4 (starEach [.Constant (.str z) j p3] env)) []))
    (hp : ∃ ar : Arg, (d.params.posonlyargs ++ d.params.args).head? = some ar ∧ ps[0]? = some ar.arg) (len : ∀ vs H Q E, sp vs H Q E → vs.length = ps.length)
    (hbody : ∀ (cda cc : Addr) (A : Around) (outer : List Env) (s : Shared) (H : Hp) (vs : List V) (Q : VK) (E : XK), sp vs H Q E →
      ∃ (a : Addr) (tl : List V), vs = .ref a :: tl ∧ H a = some (exo a C none) ∧ ∃ t, PSs (cxI P w K mg base N d.qual d.scope (He.fAd K d.at_) cda cc A outer s H) rest t ∧ t { nx := fun _ H' => Q .non H', rt := Q } (L2.start N vs) H) :
    FnOk P w K mg base CX0 (k + 1) (He.fAd K d.at_) fd ps sp := by
  obtain ⟨oc, od, kV, doc, pm, an, cda, cc, ct, osl, ccl, cdd, cvs, ccs, tf, cl, cld, csl, rfl, lk, hcd, hcode, hfile, hcell⟩ := F.ex
  refine ⟨len, fun A outer s H args us vs Q E hr e0 hbd r hsp => ?_⟩
  have KX : K.In s.heap := e0.mod.kin.keeps fun b o e => (e0.bs b o e).1
  have lim : s.heap.NoLimit := e0.mod.nolimit.keeps fun b o e => (e0.bs b o e).1
  obtain ⟨a, tl, rfl, ha, t, ht, hq⟩ := hbody cda cc A outer s H vs Q E hsp
  refine PySem.ks_codeAny_call_defAt (body := d.body) (binds := ps.zip us) hr.depth (KX _ _ lk) rfl lim (PySem.W.codeRec_of KX hcd) rfl hbd S.nocell (fun x hx => S.par x.1 (List.of_mem_zip hx).1) (fun h0 hns hk => ?_) S.co S.gen S.kind
  have I : Inv (cxI P w K mg base N d.qual d.scope (He.fAd K d.at_) cda cc A outer s H) [] (L2.start N (.ref a :: tl)) H { s with heap := h0, toks := s.toks + (ps.zip us).length } :=
    inv_i S hr.hd e0 (len _ _ _ _ hsp) r hcell hns hk
  have hrun : ∀ s2, Inv (cxI P w K mg base N d.qual d.scope (He.fAd K d.at_) cda cc A outer s H) [] (L2.start N (.ref a :: tl)) H s2 →
      wpAny (model P w) (A.deeper (envI d.qual d.scope s.heap.objs.size (He.fAd K d.at_) cda cc)) (execs rest (envI d.qual d.scope s.heap.objs.size (He.fAd K d.at_) cda cc))
        (fun f s' => CR CX0 outer P w H s Q E (.ok (.ret (match f with | .ret v => v | _ => .none))) s') (fun _ _ => False) s2 := by
    intro s2 I2
    refine wpAny_mono (ht.run [] s2 _ H _ I2 hq) (fun fl s' hs => ?_) fun e s' hs => hs
    cases fl with
    | ret u =>
      obtain ⟨v, σ', H', J, rv, q⟩ := hs
      exact ⟨v, H', J.os, J.bare, J.base, J.hok, rv, q⟩
    | next =>
      obtain ⟨σ', H', J, q⟩ := hs
      exact ⟨V.non, H', J.os, J.bare, J.base, J.hok, rfl, q⟩
    | brk => obtain ⟨_, _, _, q⟩ := hs; exact q.elim
    | cont => obtain ⟨_, _, _, q⟩ := hs; exact q.elim
  obtain ⟨ar, hp1, hp2⟩ := hp
  have hka : d.scope.names.lookup ar.arg = some .local := S.par _ (List.mem_of_getElem? hp2)
  have hN0 : N[0]? = some ar.arg := by
    have e := S.pre
    have h0 : 0 < ps.length := by
      rcases Nat.lt_or_ge 0 ps.length with h | h
      · exact h
      · rw [List.getElem?_eq_none h] at hp2; cases hp2
    rw [← hp2, ← e, List.getElem?_take_of_lt (by omega)]
  obtain ⟨m, hnm, hlm⟩ := I.loc
  obtain ⟨u0, ru0, lu0⟩ := hlm 0 ar.arg (.ref a) hN0 rfl (.inl hka)
  obtain rfl : u0 = Value.ref a := ru0
  have hma : m ar.arg = some (.ref a) := by
    rcases lu0 with ⟨_, h⟩ | ⟨h, _⟩
    · exact h
    · have h' : d.scope.names.lookup ar.arg = some .cell ∨ d.scope.names.lookup ar.arg = some .free := h
      rw [hka] at h'
      rcases h' with h' | h' <;> cases h'
  have X1 : K.In h0 := I.kIn
  show PySem.wpAt (model P w) (A.deeper (envI d.qual d.scope s.heap.objs.size (He.fAd K d.at_) cda cc)) (.func d.body (envI d.qual d.scope s.heap.objs.size (He.fAd K d.at_) cda cc)) (execs d.body (envI d.qual d.scope s.heap.objs.size (He.fAd K d.at_) cda cc)) _ _ _
  rw [hb]
  refine PySem.ks_wpAt_mono (E := fun _ _ => False) ?_ (fun _ _ z => z) fun _ _ z => z.elim
  refine PySem.ks_wpAt_execs_cons ?_
  refine PySem.ks_wpAt_Expr_any ?_ I.quiet (by rfl)
  refine PySem.ks_wpAt_MethodCall ?_ (he _)
  refine PySem.ks_wpAt_super_base (env := envI d.qual d.scope s.heap.objs.size (He.fAd K d.at_) cda cc) S.sup S.cls (by decide) rfl (X1 _ _ lk) rfl hp1 rfl (X1 _ _ hcode) rfl hfile hP.file hP.sup ?_
  obtain ⟨mb, b1, b2⟩ := I.mod.blt
  refine PySem.W.ks_loadName_global S.kind S.sup (Calls.loadGlobal_builtin (env := envI d.qual d.scope s.heap.objs.size (He.fAd K d.at_) cda cc) (I.mod.glob.keeps I.bk) hm (b1.keeps I.bk) ((b2 _ (by decide)).trans PyProof.Rows.Boot.«super») ⟨rfl, ?_⟩)
  refine wpAny_loadName_free S.kind S.cls rfl ⟨_, X1 _ _ hcell, rfl⟩ ?_
  refine wpAny_loadName_local S.kind hka hnm hma ?_
  obtain ⟨nm, qn, Nn, bs, bm, sn, sub, ab, col, dd, k0, k1, k2, k3, k5, hC, hbm⟩ := T.oex.cls
  have hcl : PySem.W.clsIn K C = some { name := nm, bases := bs, mro := .ref C :: bm, ns := Nn, qualname := qn, hasDict := true, slotNames := sn, subclasses := sub, abstract := ab, collection := col, hasDel := false } := by
    unfold PySem.W.clsIn
    rw [hC]
  obtain ⟨t1, hoa⟩ := exo_at I.hok ha
  refine PySem.ks_wpAny_isType_cls (X1 _ _ hC) rfl ⟨rfl, ?_⟩
  refine PySem.ks_wpAny_call_super (X1 _ _ hC) rfl hoa rfl (fun c z => nomatch z) (PySem.W.looks_mroIn X1 T.mro) fun h1 hso hk1 => ?_
  have I1 := I.kept (t' := s.toks + (ps.zip us).length) hk1
  have X2 : K.In h1 := I1.kIn
  have hsup := T.sup
  unfold PySem.W.ks_superIn at hsup
  rw [hcl, Option.bind_some] at hsup
  have hne : a ≠ C := fun z => by
    have h1 := X1 _ _ hC
    rw [← z, hoa] at h1
    cases h1
  have Ja : PySem.W.InstAt h1 a _ C none := ⟨hk1 _ _ hoa, rfl, rfl, trivial⟩
  refine PySem.W.kxs_getMethod PySem.W.kxs_ValueError hso (PySem.W.looks_opaque X2 T.opq) (l₀ := .ref C :: bm) (fun A Q E s k q => wpAny_bind ((PySem.W.looks_clsIn X2 hcl) A _ E s k (wpAny_pure q))) rfl X2 hsup (Ja.type.andThen (PySem.W.looks_subIn X2 T.sub)) hne (by decide) ?_
  have J2 : Inv (cxI P w K mg base N d.qual d.scope (He.fAd K d.at_) cda cc A outer s H) [(h1.objs.size, PySem.W.kxs_mw "ValueError.__init__" a)] (L2.start N (.ref a :: tl)) H
      ⟨h1.push (PySem.W.kxs_mw "ValueError.__init__" a), s.gens, s.drawn, s.toks + (ps.zip us).length + 1, s.os⟩ :=
    ClX.pin_new (s := ⟨h1, s.gens, s.drawn, s.toks + (ps.zip us).length, s.os⟩) (t' := s.toks + (ps.zip us).length + 1) I1 (fun _ _ z => Heap.get?_push_of_some _ z) (Nat.le_refl _) (Heap.get?_push_size h1 rfl) (fun v z => nomatch z)
  have hst : ∀ env : Env, starEach [.Constant (.str z) j p3] env = [(false, eval (.Constant (.str z) j p3) env)] := fun env => rfl
  rw [hst]
  refine PySem.W.kxs_callWith (i := "ValueError.__init__") (x := a) (by rfl) ?_
  refine Calls.evalArgs_plain (Calls.spliced_cons ?_)
  refine thn ((pe_str (X := cxI P w K mg base N d.qual d.scope (He.fAd K d.at_) cda cc A outer s H) (pos := p3) (j := j)).run _ _ _ H (fun v H' => v = .str z ∧ H' = H) J2 ⟨rfl, rfl⟩) fun u s3 hu => ?_
  obtain ⟨v, H3, I3, ru, rfl, rfl⟩ := hu
  refine Calls.spliced_nil ⟨ClX.pin_at I3, ?_⟩
  exact call_mw T.oex I3 ha (show 1 ≤ sizeLine by decide) fun s4 I4 => wpAt_of_wpAny (hrun s4 I4)
end
/-! ### isinstance of a caught exception that has a dict -/
section
open PySem.W PySem.Calls
variable {prog : Program} {w : World} {A : Around} {E : Value → Shared → Prop} {s : Shared} {K : Frag} {x D : Addr} {ox : Obj} {od : Option Obj}
theorem clsOf_exc {Q : Option Value → Shared → Prop} (c : L2.ExcC K D) (X : K.In s.heap) (I : InstAt s.heap x ox D od) (h : Q (some (.ref D)) { s with toks := s.toks + 1 }) : wpAny (model prog w) A (getAttr? (.ref x) "__class__") Q E s := by
  have fnd : findObj K D od "__class__" = some (.bind (.builtin "getset_descriptor.__get__") (.builtin "object.__class__")) := by
    obtain ⟨cd, e, _⟩ := any_some c.hd
    unfold findObj
    rw [e, Option.bind_some, c.ha, Option.bind_some]
    simp [c.hn, c.ht]
  obtain ⟨hp, g, d, t, os⟩ := s
  have t0 := I.type (M := model prog w)
  have t1 := looks_findIn (M := model prog w) X c.hg
  have t2 := looks_findIn (M := model prog w) X c.hk
  have t3 := looks_find (M := model prog w) X I fnd
  have tb : Looks (model prog w) hp (isInstance (.ref x) (.type "BaseException")) true := t0.andThen (looks_subIn X c.hs)
  have n0 : (false && onTheHeap (Value.builtin "BaseException.__getattribute__")) = false := rfl
  have n1 : (onTheHeap (Value.ref D) && (Value.builtin "BaseException.__getattribute__" == Value.builtin "object.__getattribute__")) = false := by
    rw [show (Value.builtin "BaseException.__getattribute__" == Value.builtin "object.__getattribute__") = false from by decide +kernel, Bool.and_false]
  unfold getAttr? getAttrBy? getAttrBy
  refine wpAny_bind (wpAny_mkText (wpAny_bind (wpAny_attempt (wpAny_holding (wpAny_bind (t0.at (wpAny_bind (t1.at ?_))))))))
  show wpAny _ _ (if (onTheHeap (Value.ref D) && (Value.builtin "BaseException.__getattribute__" == Value.builtin "object.__getattribute__")) = true then _ else _) _ _ _
  rw [n1, if_neg Bool.false_ne_true]
  unfold getAttrByItsOwn hookBefore
  refine wpAny_bind ?_
  rw [if_pos (show onTheHeap (Value.ref D) = true by rfl)]
  refine t2.at (wpAny_bind (wpAny_attempt (wpAny_holding ?_)))
  unfold callGetattribute
  rw [n0, if_neg Bool.false_ne_true]
  unfold boundAndCalled
  rw [PySem.F.excAttr_ValueError.ga.bind (.ref x)]
  refine wpAny_bind (wpAny_pure ?_)
  show wpAny _ _ (call (.builtin "BaseException.__getattribute__") [.ref x, .str "__class__" t]) _ _ ⟨hp, g, d, t + 1, os⟩
  refine wpAny_call (codeAny_call_builtin PySem.F.excAttr_ValueError.ga.plain PySem.F.entry_bexc_ga (@check_slot (model prog w) _ _ ⟨hp, g, d, t + 1, os⟩ "BaseException.__getattribute__" "BaseException" "__getattribute__" (.ref x) [.str "__class__" t] [] _ (by decide +kernel) (by decide +kernel) tb (PySem.F.args_bexc_ga (.ref x) (.str "__class__" t)) ?_))
  unfold Builtin.«object.__getattribute__»
  refine wpAny_bind (wpAny_of_eq (a := ((Value.ref x : Value), [Value.str "__class__" t])) (by first | rfl | (simp only [slotArgs]; rfl)) (wpAny_bind (wpAny_pure (wpAny_bind (t0.at (wpAny_bind (t3.at ?_)))))))
  show wpAny _ _ (holding [Value.builtin "object.__class__"] (call (.builtin "getset_descriptor.__get__") [.builtin "object.__class__", .ref x, .ref D]) >>= ret) _ _ ⟨hp, g, d, t + 1, os⟩
  refine wpAny_bind (wpAny_holding (wpAny_call (class_get (s := ⟨hp, g, d, t + 1, os⟩) (ox := ox) (od := od) X I c.hm (wpAny_pure ?_))))
  show wpAny _ _ (handedOut (.ref D)) _ _ ⟨hp, g, d, t + 1, os⟩
  rw [handedOut_of (v := .ref D) rfl]
  first
    | exact wpAny_pure (wpAny_pure h)
    | exact wpAny_pure h
    | exact wpAny_pure (wpAny_bind (wpAny_pure (wpAny_pure h)))
theorem kitx_exc (c : L2.ExcC K D) : KitX K (.ref x) (.ref D) (fun h => InstAt h x ox D od) where
  ty := fun _ _ _ I => I.type
  it := fun _ _ X _ => by
    obtain ⟨cd, e, _⟩ := any_some c.hd
    unfold clsIn at e
    split at e
    · rename_i c' d' cd' sl' ho
      intro A' Q' E' s' k q
      unfold isType loadHead
      exact wpAny_bind (wpAny_loadPart (k _ _ (X _ _ ho)) (wpAny_pure q))
    · cases e
  ne := fun h tp dd its n sl X htp => by
    obtain ⟨cd, e, _⟩ := any_some c.hd
    refine Bool.eq_false_iff.mpr fun q => ?_
    have eq : D = tp := Value.ref.inj (beq_iff_eq.mp q)
    subst eq
    unfold clsIn at e
    split at e
    · rename_i c' d' cd' sl' ho
      exact nomatch ((X _ _ ho).symm.trans htp)
    · cases e
  ca := fun X I k => clsOf_exc c X I k
end
/-- e's class and dict, as the suite knows them -/
def rIsX (K : PySem.W.Frag) (a : Addr) (cls : Value) (d : Option Addr) : List V → Hp → VK → Prop := fun xs H Q => ∃ (D dd : Addr) (fs : List (Str × V)) (c : V) (u : Value) (b : Bool), cls = .ref D ∧ d = some dd ∧ H dd = some (.xd fs) ∧ ExcC K D ∧ xs = [.ref a, c] ∧ ClsV c u ∧ PySem.W.kitOne K (.ref D) u = some b ∧ Q (.bl b) H
def rIsXT (K : PySem.W.Frag) (a : Addr) (cls : Value) (d : Option Addr) : List V → Hp → VK → Prop := fun xs H Q => ∃ (D dd : Addr) (fs : List (Str × V)) (tp : Addr) (cs : List V) (us : List Value) (b : Bool), cls = .ref D ∧ d = some dd ∧ H dd = some (.xd fs) ∧ ExcC K D ∧ xs = [.ref a, .ref tp] ∧ H tp = some (.tup cs) ∧ Paired ClsV cs us ∧
  PySem.W.kitAny K (.ref D) us = some b ∧ Q (.bl b) H
section
variable {X : Cx} {a : Addr} {oe : Obj} {cls : Value} {d : Option Addr} {pn : List (Addr × Obj)}
theorem inst_of {D dd : Addr} {fs : List (Str × V)} {pins : List (Addr × Obj)} {σ : L2.St} {H : Hp} {s : Shared} (hz : Zc (.ref D) (some dd) oe) (hf : ∃ vs, oe.data = .fields vs) (I : Inv (X.suite a ((a, oe) :: pn)) pins σ H s) (hd : H dd = some (.xd fs)) :
    ∃ od, PySem.W.InstAt s.heap a oe D (some od) := by
  obtain ⟨hget, _⟩ := I.pin (a, oe) (List.mem_append.mpr (.inl List.mem_cons_self))
  obtain ⟨mA, ⟨o, _, _, ho, _⟩, _⟩ : ∃ mA, s.heap.Ns1 dd mA ∧ ∀ f, RelO (fs.lookup f) (mA f) := I.hok dd _ hd
  obtain ⟨vs, hv⟩ := hf
  obtain ⟨oc, od, oda, osl⟩ := oe
  obtain ⟨h1, h2⟩ := hz
  dsimp only at h1 h2 hv
  subst h1 h2 hv
  exact ⟨o, hget, rfl, rfl, ho⟩
theorem call_isX (hz : Zc cls d oe) (hf : ∃ vs, oe.data = .fields vs) : CallR (X.suite a ((a, oe) :: pn)) (.builtin "isinstance") (rIsX X.K a cls d) := by
  intro pins s σ H xs us Q I r h
  obtain ⟨D, dd, fs, c, u, b, rfl, rfl, hd, C, rfl, k, e, q⟩ := h
  obtain ⟨u1, u2, rfl, r1, r2⟩ := vals2 r
  cases (show u1 = Value.ref a from r1)
  have e2 := k.eq r2
  subst e2
  obtain ⟨od, J⟩ := inst_of hz hf I hd
  exact PySem.W.kia_one (kitx_exc C) I.kIn J e (fun z => nomatch z) fun tk => ⟨.bl b, H, I.tok tk, rfl, q⟩
theorem call_isXT (hz : Zc cls d oe) (hf : ∃ vs, oe.data = .fields vs) : CallR (X.suite a ((a, oe) :: pn)) (.builtin "isinstance") (rIsXT X.K a cls d) := by
  intro pins s σ H xs us Q I r h
  obtain ⟨D, dd, fs, tp, cs, ws, b, rfl, rfl, hd, C, rfl, hT, k, e, q⟩ := h
  obtain ⟨u1, u2, rfl, r1, r2⟩ := vals2 r
  cases (show u1 = Value.ref a from r1)
  cases (show u2 = Value.ref tp from r2)
  obtain ⟨od, J⟩ := inst_of hz hf I hd
  obtain ⟨_, its, rv, o, h1, h2, n, h3⟩ := (show ObjOk X.prog X.w H s.heap tp (.tup cs) from I.hok tp _ hT)
  have e3 := ClsV.all k rv
  subst e3
  obtain ⟨oc, od', dt, sl⟩ := o
  simp only at h2 h3
  subst h2 h3
  exact PySem.W.kia_tup (kitx_exc C) I.kIn J h1 e (fun z => nomatch z) fun tk => ⟨.bl b, H, I.tok tk, rfl, q⟩
end
/-! ### the facts as Bools, the hook -/
open He in
def oexB (K : PySem.W.Frag) (C : Addr) : Bool := (match K.lookup C with
  | some ⟨.type "type", _, .cls cd, sl⟩ => (match cd.mro, sl.toList with
    | .ref C' :: bm, [_, _, _, _, some (.builtin n), _] => C' == C && (n == "ValueError.__new__" && (!cd.hasDel && (cd.hasDict && PySem.HandSPX.refsVE bm)))
    | _, _ => false)
  | _ => false) && (eqO (PySem.W.findIn K (.ref C) "__setattr__") (some (some (.builtin "object.__setattr__"))) && (decide (PySem.W.subIn K (.ref C) (.type "BaseException") = some true) && (decide (PySem.W.typeIn K (.ref C) = some (.type "type")) && PySem.W.keepIn K (.ref C))))
theorem oexB_ok {K : PySem.W.Frag} {C : Addr} (h : oexB K C = true) : OexC K C := by
  obtain ⟨h0, h⟩ := He.ba h
  obtain ⟨h1, h⟩ := He.ba h
  obtain ⟨h2, h⟩ := He.ba h
  obtain ⟨h3, h4⟩ := He.ba h
  refine ⟨?_, He.eqO_ok h1, of_decide_eq_true h2, of_decide_eq_true h3, h4⟩
  split at h0
  · rename_i dd cd sl ho
    split at h0
    · rename_i C' bm k0 k1 k2 k3 n k5 hm hs
      obtain ⟨e1, h0⟩ := He.ba h0
      obtain ⟨e2, h0⟩ := He.ba h0
      obtain ⟨e3, h0⟩ := He.ba h0
      obtain ⟨e4, e5⟩ := He.ba h0
      obtain rfl := beq_iff_eq.mp e1
      obtain rfl := beq_iff_eq.mp e2
      obtain ⟨nm, bs, mro, ns, qn, hd, sn, sub, ab, col, dl⟩ := cd
      dsimp only at hm e3 e4
      subst hm e4
      have e3' : dl = false := by simpa using e3
      subst e3'
      have hsl : sl = #[k0, k1, k2, k3, some (.builtin "ValueError.__new__"), k5] := by
        obtain ⟨l⟩ := sl
        simp only at hs
        rw [hs]
      subst hsl
      exact ⟨nm, qn, ns, bs, bm, sn, sub, ab, col, dd, k0, k1, k2, k3, k5, ho, e5⟩
    · cases h0
  · cases h0
open He in
def xclsB (K : PySem.W.Frag) (C : Addr) : Bool := oexB K C && (decide (PySem.W.mroIn K C (.ref C) = some true) && (eqO (PySem.W.ks_superIn K C C "__init__") (some (some (.builtin "ValueError.__init__"))) &&
  (decide (PySem.W.subIn K (.ref C) (.type "ValueError") = some true) && eqO (PySem.W.nsIn K cStatics "thirdparty.any") (some none))))
theorem xclsB_ok {K : PySem.W.Frag} {C : Addr} (h : xclsB K C = true) : XCls K C := by
  obtain ⟨h0, h⟩ := He.ba h
  obtain ⟨h1, h⟩ := He.ba h
  obtain ⟨h2, h⟩ := He.ba h
  obtain ⟨h3, h4⟩ := He.ba h
  exact ⟨oexB_ok h0, of_decide_eq_true h1, He.eqO_ok h2, of_decide_eq_true h3, He.eqO_ok h4⟩
open He in
/-- what isinstance and e.f ask of it -/
def excB (K : PySem.W.Frag) (C : Addr) : Bool := xfB K C && (eqO (PySem.W.findIn K (.ref C) "__class__") (some (some (.builtin "object.__class__"))) &&
  (eqO (PySem.W.specialIn K (.builtin "object.__class__") "__get__") (some (some (.builtin "getset_descriptor.__get__"))) && (decide (PySem.W.takesIn K (.builtin "object.__class__") = some true) && decide (PySem.W.mroIn K C (.type "object") = some true))))
theorem excB_ok {K : PySem.W.Frag} {C : Addr} (h : excB K C = true) : ExcC K C ∧ XfC K C := by
  obtain ⟨h0, h⟩ := He.ba h
  obtain ⟨h1, h⟩ := He.ba h
  obtain ⟨h2, h⟩ := He.ba h
  obtain ⟨h3, h4⟩ := He.ba h
  obtain ⟨g1, g⟩ := He.ba h0
  obtain ⟨g2, g⟩ := He.ba g
  obtain ⟨g3, g4⟩ := He.ba g
  exact ⟨⟨of_decide_eq_true g1, of_decide_eq_true g2, of_decide_eq_true g3, g4, He.eqO_ok h1, He.eqO_ok h2, of_decide_eq_true h3, of_decide_eq_true h4⟩, xfB_ok h0⟩
abbrev FnZ : Type := Option (Str × Str × Arguments × FuncBody × Scope × Addr × List Str × Addr)
def fnZ (K : PySem.W.Frag) (p : Str × Option Str) : FnZ := match K.lookup (He.fAd K p) with
  | some ⟨_, _, .func fd, _⟩ => some (fd.name, fd.qualname, fd.params, fd.body, fd.scope, fd.globals, fd.closure.map (·.1), fd.builtins)
  | _ => none
def valZ (d : He.DefD) : FnZ := some (d.name, d.qual, d.params, .stmts d.body, d.scope, mainGlobals, ["__class__"], builtinsNs)
def fileB (K : PySem.W.Frag) (cda : Addr) : Bool := match K.lookup cda with
  | some ⟨_, _, .fields vs, _⟩ => (match (vs[2]? : Option Value) with
    | some (.str z _) => z == cutFile
    | _ => false)
  | _ => false
def cellB (K : PySem.W.Frag) (cc C : Addr) : Bool := match K.lookup cc with
  | some ⟨_, _, .cell (some (.ref D)), _⟩ => D == C
  | _ => false
def xfunB (K : PySem.W.Frag) (d : He.DefD) (C : Addr) : Bool := match K.lookup (He.fAd K d.at_) with
  | some ⟨_, _, .func fd, _⟩ => (match fd.closure, fd.code, fd.defaults with
    | [(_, cc)], .ref cda, .none => PySem.W.codeIn K (.ref cda) d.qual && (fileB K cda && cellB K cc C)
    | _, _, _ => false)
  | _ => false
theorem xfun_ok {K : PySem.W.Frag} {d : He.DefD} {C : Addr} (e : fnZ K d.at_ = valZ d) (c : xfunB K d C = true) : ∃ fd, XFun K d C fd := by
  unfold fnZ at e
  unfold xfunB at c
  cases q : K.lookup (He.fAd K d.at_) with
  | none =>
    rw [q] at c
    cases c
  | some o =>
    obtain ⟨oc, od, dt, osl⟩ := o
    rw [q] at c e
    cases dt with
    | func fd =>
      obtain ⟨n1, n2, n3, n4, n5, n6, n7, n8, n9, n10, n11, n12, n13, n14, n15⟩ := fd
      have e2 : (some (n1, n2, n3, n4, n5, n6, n7.map (·.1), n15) : FnZ) = some (d.name, d.qual, d.params, FuncBody.stmts d.body, d.scope, mainGlobals, [Str.ofString "__class__"], builtinsNs) := e
      simp only [Option.some.injEq, Prod.mk.injEq] at e2
      obtain ⟨h1, h2, h3, h4, h5, h6, h7, h8⟩ := e2
      subst h1 h2 h3 h4 h5 h6 h8
      dsimp only at c
      split at c
      · rename_i nn cc cda
        obtain ⟨c1, c⟩ := He.ba c
        obtain ⟨c2, c3⟩ := He.ba c
        have hn : nn = "__class__" := by simpa using h7
        subst hn
        unfold fileB at c2
        unfold cellB at c3
        split at c2
        · rename_i ccl cdd vs ccs hcode
          split at c2
          · rename_i z tf hv
            have hz : z = cutFile := beq_iff_eq.mp c2
            subst hz
            split at c3
            · rename_i cl cld D csl hcell
              have hD : D = C := beq_iff_eq.mp c3
              subst hD
              exact ⟨_, oc, od, n9, n10, n11, n12, cda, cc, n14, osl, ccl, cdd, vs, ccs, tf, cl, cld, csl, rfl, q, c1, hcode, hv, hcell⟩
            · cases c3
          · cases c2
        · cases c2
      · cases c
    | _ => cases c
abbrev AlY : Type := AlX × List FnZ
def obsYG (n : Nat) (fa : List He.Fa) (fn xn : List He.DefD) (ex : PySem.W.Frag → Bool) (g : Addr → Option Obj) : AlY :=
  (fun K => (((He.obsD fa fn K, ex K) : AlX), xn.map fun d => fnZ K d.at_)) (He.frG g (He.asD g n ++ [cStatics]))
def hookY (n : Nat) (fa : List He.Fa) (fn xn : List He.DefD) (ex : PySem.W.Frag → Bool) : PySem.W.Hook where
  α := AlY
  obs := fun s => obsYG n fa fn xn ex s.heap.get?
  val := fun _ => ((He.valD fn, true), xn.map valZ)
  says := fun _ h => ∃ K : PySem.W.Frag, K.In h ∧ Says fa fn ex K ∧ xn.map (fun d => fnZ K d.at_) = xn.map valZ
  of := fun _ _ e => ⟨_, He.frG_in, ⟨congrArg (fun z : AlY => z.1.1) e, congrArg (fun z : AlY => z.1.2) e⟩, congrArg (fun z : AlY => z.2) e⟩
  keeps := fun _ _ _ ⟨K, hK, c⟩ k => ⟨K, PySem.W.Frag.In.keeps hK k, c⟩
theorem obsYG_eq {n : Nat} {fa : List He.Fa} {fn xn : List He.DefD} {ex : PySem.W.Frag → Bool} {g : Addr → Option Obj} {s : Shared} (h : ∀ a, g a = s.heap.get? a) : obsYG n fa fn xn ex g = (hookY n fa fn xn ex).obs s := by
  have e : g = s.heap.get? := funext h
  rw [e]
  rfl
/-- the text of a program with own exceptions -/
structure TxX (P : Program) (fa : List He.Fa) (fn xn : List He.DefD) (ex : PySem.W.Frag → Bool) (K : PySem.W.Frag) (mg : Str → Option Value) : Prop extends Tx fa fn ex K mg where
  pf : PFile P
  xf : xn.map (fun d => fnZ K d.at_) = xn.map valZ
theorem TxX.xfn {P : Program} {fa : List He.Fa} {fn xn : List He.DefD} {ex : PySem.W.Frag → Bool} {K : PySem.W.Frag} {mg : Str → Option Value} (T : TxX P fa fn xn ex K mg) (i : Nat) {d : He.DefD} {C : Addr} (c : xfunB K d C = true) (h : xn[i]? = some d := by rfl) : ∃ fd, XFun K d C fd := by
  have e2 : (xn.map fun d => fnZ K d.at_)[i]? = (xn.map valZ)[i]? := by rw [T.xf]
  rw [List.getElem?_map, List.getElem?_map, h] at e2
  exact xfun_ok (Option.some.inj e2) c
/-! ### an own exception made -/
/-- the fields behind __init__ -/
def xFs (fl : List Str) (vs : List V) (t : Addr) : List (Str × V) := ("told_parts", .ref t) :: (fl.zip vs).reverse
def spX (C : Addr) (nm : Str) (fl : List Str) : Sp := fun vs H Q _ => ∃ (a : Addr) (args : List V), vs = .ref a :: args ∧ args.length = fl.length ∧ H a = some (exo a C none) ∧
  ∀ (d t : Addr) (H' : Hp), H d = none → H t = none → (∀ b o, b ≠ a → H b = some o → H' b = some o) → H' a = some (exo a C (some d)) → H' d = some (exd d (xFs fl args t)) → H' t = some (.tup (.str nm :: args)) → Q .non H'
structure XMk (P : Program) (w : World) (K : PySem.W.Frag) (mg : Str → Option Value) (base : Heap) (x : Str) (C : Addr) (nm : Str) (fl : List Str) : Prop where
  oex : OexC K C
  glo : mg x = some (.ref C)
  ini : ∃ (f : Addr) (fd : FuncData) (ps : List Str), PySem.W.findIn K (.ref C) "__init__" = some (some (.ref f)) ∧ PySem.W.typeIn K (.ref f) = some (.type "function") ∧ FnOk P w K mg base CX0 1 f fd ps (spX C nm fl) ∧ Binds K fd ps []
def tMkX (C : Addr) (nm : Str) (fl : List Str) (ta : TA) : L2.St → Hp → XK → Prop := fun σ H Q => ta σ H fun vs H1 => vs.length = fl.length ∧
  ∀ (d t : Addr) (H' : Hp), H1 d = none → H1 t = none → Ex H1 H' → H' d = some (.xd (xFs fl vs t)) → H' t = some (.tup (.str nm :: vs)) → Q (.ref C) (some d) H'
section
variable {X : Cx} {x nm : Str} {C : Addr} {fl : List Str} {e : Expr} {es : List Expr} {ta : TA} {p pos : Pos}
theorem pmk_x (M : XMk X.prog X.w X.K X.mg X.base x C nm fl) (hfl : fl.length ≤ 10) (hr : Room 2 X.A) (hg : Gl X x) (ha : PA X (e :: es) ta)
    (hdb : (x == ("__debug__" : Str)) = false := by decide) (he : starEach (e :: es) X.env = (false, eval e X.env) :: starEach es X.env := by rfl) (hpl : (backTo pos (starEach es X.env)).any (·.1) = false := by rfl) :
    PMk X (.Call (.Name x p) (e :: es) [] pos) (tMkX C nm fl ta) := by
  obtain ⟨f, fd, ps, h1, h2, h3, h4⟩ := M.ini
  have ha' : PA X (e :: es) (fun σ H Q => ∃ Q0 : List V → Hp → Prop, ta σ H Q0 ∧ ∀ vs H', Q0 vs H' → Q vs H') :=
    ⟨fun pos pins s σ H Q I ⟨Q0, h, k⟩ => thn (ha.run pos pins s σ H Q0 I h) fun us s1 ⟨vs, H1, I1, r, q⟩ => ⟨vs, H1, I1, r, k vs H1 q⟩⟩
  have G := pmk_oex (p := p) (pos := pos) M.oex h1 h2 h3 hr h4 (.nil) pass0 hg M.glo ha' hdb he hpl
  intro pins s σ H Q I h
  refine G pins s σ H Q I ⟨_, h, fun vs H1 q => ?_⟩
  obtain ⟨hl, q⟩ := q
  refine ⟨by omega, fun a na => ?_⟩
  rw [List.append_nil]
  refine ⟨a, vs, rfl, hl, upd_same, fun d t H2 nd nt k ea ed et => ⟨rfl, d, _, ea, ed, (upd_none nd).2, ?_⟩⟩
  have dne := (upd_none nd).1
  have td : t ≠ d := fun z => by
    rw [z, ed] at et
    exact exd_tup (Option.some.inj et)
  have tn := (upd_none nt).1
  refine q d t _ (upd_none nd).2 (upd_none nt).2 (fun b o hb => ?_) upd_same ?_
  · have nb : b ≠ a := ne_of_none hb na
    rw [upd_ne (ne_of_none hb (upd_none nd).2), del_ne nb]
    exact k b o nb (by rw [upd_ne nb]; exact hb)
  · rw [upd_ne td, del_ne tn]
    exact et
end
/-! ### calls of defs that may let an exception out -/
section
variable {X : Cx} {W : WX} {g : Bool} {k n : Nat} {d : He.DefD} {ps ks : List Str} {sp : Sp} {x : Str} {p pos : Pos} {e : Expr} {es : List Expr} {kws : List Keyword} {t tk : TA} {gV : List V → List V → List V}
theorem run_fx {f : Addr} {fd : FuncData} {pins : List (Addr × Obj)} {σ : L2.St} {H : Hp} {s : Shared} {Q : VK} {args : Args} {us : List Value} {vs : List V}
    (F : Fq g X.prog X.w X.K X.mg X.base (L2.CX X.prog X.w) k f fd ps sp) (hg : Gd g X.A) (hr : Room k X.A) (hb : BindsTo s fd args (ps.zip us)) (hx : Takes X W) (I : Inv X pins σ H s) (r : Vals vs us) (h : sp vs H Q (fun cls d H' => W cls d σ H')) :
    codeAny (model X.prog X.w) X.A (.call (.ref f) args) (fun r s' => match r with
      | .ok (.ret v) => EP X pins σ Q v s' | .ok _ => False | .error e => X.xe e s') s := by
  refine codeAny_mono (F.go X.A X.stack s H args us vs Q _ hg hr I.env0 hb r h) fun r s' hq => ?_
  cases r with
  | error e => exact hx e s' (XE.of_call I (fun _ _ _ z => z) hq)
  | ok fl =>
    cases fl with
    | ret u => exact I.after hq
    | _ => exact hq.elim
def tOX (n m : Nat) (sp : Sp) (gV : List V → List V → List V) (W : WX) (t tk : TA) : TE := fun σ H Q => t σ H fun vs H1 => tk σ H1 fun zs H2 =>
  vs.length = n ∧ zs.length = m ∧ sp (gV vs zs) H2 Q (fun cls d H' => W cls d σ H')
theorem pe_oX (F : Fo g X.prog X.w X.K X.mg X.base (L2.CX X.prog X.w) k d ps sp) (hm : X.mg x = some (.ref (He.fAd X.K d.at_)))
    (hb : ∀ fd, FunD X.K d.name d.qual d.params d.body d.scope (d.dvs X.K) (d.kws X.K) (He.fAd X.K d.at_) fd → Bw X.K fd ps n [] gV)
    (hg : Gd g X.A) (hr : Room k X.A) (gl : Gl X x) (hx : Takes X W) (ha : PA X (e :: es) t) (hdb : (x == ("__debug__" : Str)) = false := by decide)
    (he : starEach (e :: es) X.env = (false, eval e X.env) :: starEach es X.env := by rfl) (hpl : (backTo pos (starEach es X.env)).any (·.1) = false := by rfl) :
    PE X (.Call (.Name x p) (e :: es) [] pos) (tOX n 0 sp gV W t tNil) := by
  obtain ⟨fd, F1, FD⟩ := F
  refine ⟨fun pins s σ H Q I h => wpAny_Call_Name_kw (ld_glob I gl hm ?_ hdb)⟩
  refine PySem.W.callWith_K (h₀ := X.base) I.ok.mod.kin FD.kp (thn (ha.run pos pins s σ H _ I h) fun us s1 q => ?_) he hpl
  obtain ⟨vs, H1, I1, r, l1, l2, q⟩ := q
  obtain ⟨zs, hB, hV⟩ := hb fd FD s1 us [] I1.kIn (r.length.symm.trans l1) rfl
  exact ⟨I1.kIn, wpAny_call (run_fx F1 hg hr hB hx I1 (hV vs [] r .nil) q)⟩
theorem pe_ok0X (F : Fo g X.prog X.w X.K X.mg X.base (L2.CX X.prog X.w) k d ps sp) (hm : X.mg x = some (.ref (He.fAd X.K d.at_)))
    (hb : ∀ fd, FunD X.K d.name d.qual d.params d.body d.scope (d.dvs X.K) (d.kws X.K) (He.fAd X.K d.at_) fd → Bw X.K fd ps 0 ks gV)
    (hg : Gd g X.A) (hr : Room k X.A) (gl : Gl X x) (hx : Takes X W) (hkw : PK X kws tk) (hall : (backToKw pos (keywordEach kws X.env)).all (·.1.isSome) = true := by rfl)
    (hks : (backToKw pos (keywordEach kws X.env)).filterMap (·.1) = ks := by rfl) (hdb : (x == ("__debug__" : Str)) = false := by decide)
    (hpl : ((backTo pos (starEach [] X.env)).any (·.1) || (backToKw pos (keywordEach kws X.env)).any (·.1.isNone)) = false := by rfl) :
    PE X (.Call (.Name x p) [] kws pos) (tOX 0 ks.length sp gV W tNil tk) := by
  obtain ⟨fd, F1, FD⟩ := F
  refine ⟨fun pins s σ H Q I h => wpAny_Call_Name_kw (ld_glob I gl hm ?_ hdb)⟩
  refine PySem.W.callWith_KW0 (h₀ := X.base) I.ok.mod.kin FD.kp hall (thn (hkw.run pos pins s σ H _ I h) fun ws s2 q2 => ?_) hpl
  obtain ⟨ys, H2, I2, rz, l1, l2, q3⟩ := q2
  rw [hks]
  obtain ⟨zs, hB, hV⟩ := hb fd FD s2 [] ws I2.kIn rfl (rz.length.symm.trans l2)
  exact ⟨I2.kIn, wpAny_call (run_fx F1 hg hr hB hx I2 (hV [] ys .nil rz) q3)⟩
end
/-- nothing is let out -/
theorem takes_no {X : Cx} : Takes X (fun _ _ _ _ => False) := fun u s' ⟨_, _, _, _, _, _, _, _, _, _, _, _, _, _, _, _, w⟩ => w.elim
/-! ### the rest of __init__: self.f, .., self.told_parts = (f, .., ('N', f, ..)) -/
theorem args1 {f : Str} {args : List V} (h : args.length = [f].length) : ∃ v, args = [v] := by
  match args, h with
  | [v], _ => exact ⟨v, rfl⟩
theorem args2 {f g : Str} {args : List V} (h : args.length = [f, g].length) : ∃ v u, args = [v, u] := by
  match args, h with
  | [v, u], _ => exact ⟨v, u, rfl⟩
section
variable {K : PySem.W.Frag} {C a : Addr} {nm f g : Str} {v u : V} {H : Hp} {Q : VK}
theorem init1 (T : OexC K C) (h1 : NoAttr K C f) (h2 : NoAttr K C "told_parts") (ha : H a = some (exo a C none))
    (hq : ∀ (d t : Addr) (H' : Hp), H d = none → H t = none → (∀ b o, b ≠ a → H b = some o → H' b = some o) → H' a = some (exo a C (some d)) → H' d = some (exd d (xFs [f] [v] t)) → H' t = some (.tup (.str nm :: [v])) → Q .non H') :
    tAsg (tTup (tCons (tVar 1) (tCons (tTup (tCons (tC (.str nm)) (tCons (tVar 1) tNil))) tNil))) (gTup K 2 (gCons (gOst K f (tVar 0)) (gCons (gOst K "told_parts" (tVar 0)) gNil))) { nx := fun _ H' => Q .non H', rt := Q } [some (.ref a), some v] H := by
  refine ⟨v, rfl, v, rfl, (show 2 ≤ sizeLine by decide), fun t nt => ⟨(show 2 ≤ sizeLine by decide), fun p np => ⟨p, _, rfl, .inl (.inl upd_same), rfl, v, [.ref t], rfl, .ref a, rfl, a, C, rfl, T, h1, .inl ⟨?_, fun d nd dne => ⟨.ref t, [], rfl, .ref a, rfl, a, C, rfl, T, h2, .inr ⟨d, [(f, v)], upd_same, ?_, (show 1 ≤ 900 by decide), rfl, ?_⟩⟩⟩⟩⟩⟩
  · rw [upd_ne (ne_of_none (by rw [upd_ne (ne_of_none ha nt)]; exact ha) np), upd_ne (ne_of_none ha nt)]
    exact ha
  · rw [upd_ne dne, upd_same]
  · have ndp := upd_none nd
    have ndt := upd_none ndp.2
    have na : a ≠ t := ne_of_none ha nt
    have npt := upd_none np
    refine hq d t _ ndt.2 nt (fun b o nb hb => ?_) ?_ upd_same ?_
    · rw [upd_ne (ne_of_none hb ndt.2), upd_ne nb, upd_ne (ne_of_none hb ndt.2), upd_ne (ne_of_none hb npt.2), upd_ne (ne_of_none hb nt)]
      exact hb
    · rw [upd_ne dne.symm, upd_same]
    · rw [upd_ne ndt.1.symm, upd_ne na.symm, upd_ne ndt.1.symm, upd_ne npt.1.symm, upd_same]
theorem init2 (T : OexC K C) (h1 : NoAttr K C f) (h1' : NoAttr K C g) (h2 : NoAttr K C "told_parts") (ha : H a = some (exo a C none))
    (hq : ∀ (d t : Addr) (H' : Hp), H d = none → H t = none → (∀ b o, b ≠ a → H b = some o → H' b = some o) → H' a = some (exo a C (some d)) → H' d = some (exd d (xFs [f, g] [v, u] t)) → H' t = some (.tup (.str nm :: [v, u])) → Q .non H') :
    tAsg (tTup (tCons (tVar 1) (tCons (tVar 2) (tCons (tTup (tCons (tC (.str nm)) (tCons (tVar 1) (tCons (tVar 2) tNil)))) tNil)))) (gTup K 3 (gCons (gOst K f (tVar 0)) (gCons (gOst K g (tVar 0)) (gCons (gOst K "told_parts" (tVar 0)) gNil)))) { nx := fun _ H' => Q .non H', rt := Q } [some (.ref a), some v, some u] H := by
  refine ⟨v, rfl, u, rfl, v, rfl, u, rfl, (show 3 ≤ sizeLine by decide), fun t nt => ⟨(show 3 ≤ sizeLine by decide), fun p np => ⟨p, _, rfl, .inl (.inl upd_same), rfl, v, [u, .ref t], rfl, .ref a, rfl, a, C, rfl, T, h1, .inl ⟨?_, fun d nd dne => ⟨u, [.ref t], rfl, .ref a, rfl, a, C, rfl, T, h1', .inr ⟨d, [(f, v)], upd_same, ?_, (show 1 ≤ 900 by decide),
    .ref t, [], rfl, .ref a, rfl, a, C, rfl, T, h2, .inr ⟨d, [(g, u), (f, v)], ?_, upd_same, (show 2 ≤ 900 by decide), rfl, ?_⟩⟩⟩⟩⟩⟩⟩
  · rw [upd_ne (ne_of_none (by rw [upd_ne (ne_of_none ha nt)]; exact ha) np), upd_ne (ne_of_none ha nt)]
    exact ha
  · rw [upd_ne dne, upd_same]
  · rw [upd_ne dne.symm, upd_same]
  · have ndp := upd_none nd
    have ndt := upd_none ndp.2
    have na : a ≠ t := ne_of_none ha nt
    have npt := upd_none np
    refine hq d t _ ndt.2 nt (fun b o nb hb => ?_) ?_ upd_same ?_
    · rw [upd_ne (ne_of_none hb ndt.2), upd_ne (ne_of_none hb ndt.2), upd_ne nb, upd_ne (ne_of_none hb ndt.2), upd_ne (ne_of_none hb npt.2), upd_ne (ne_of_none hb nt)]
      exact hb
    · rw [upd_ne dne.symm, upd_ne dne.symm, upd_same]
    · rw [upd_ne ndt.1.symm, upd_ne ndt.1.symm, upd_ne na.symm, upd_ne ndt.1.symm, upd_ne npt.1.symm, upd_same]
end
end Ab

set_option Elab.async false
set_option linter.all false
set_option maxRecDepth 100000
set_option maxHeartbeats 4000000
/-! AbT: values whose kind is known. -/
namespace Ab
open PySem PySem.Spec PyProof.Rows L2
def isInt : V → Bool
  | .int _ => true
  | _ => false
def isStr : V → Bool
  | .str _ => true
  | _ => false
def isBl : V → Bool
  | .bl _ => true
  | _ => false
/-- a value whose kind is known -/
def Ty (K : PySem.W.Frag) (H : Hp) : V → Prop
  | .non => True
  | .bl _ => True
  | .int _ => True
  | .str z => (cs z).length ≤ 1000000
  | .ref a => ∃ t, TyX K H (.ref a) t ∧ PySem.W.kitOne K t (.type "int") = some false ∧ PySem.W.kitOne K t (.type "str") = some false ∧ PySem.W.kitOne K t (.type "bool") = some false
  | _ => False
section
variable {K : PySem.W.Frag} {H : Hp} {v : V} {Q : VK}
theorem is_int (h : Ty K H v) (q : Q (.bl (isInt v || isBl v)) H) : rIsi K [v, .ty "int"] H Q := by
  cases v with
  | non => exact ⟨_, _, _, _, false, rfl, .ty _, .base .non, kit_ty (show kitB "NoneType" "int" = some false by decide +kernel), q⟩
  | bl b => exact ⟨_, _, _, _, true, rfl, .ty _, .base (.bl b), kit_ty (show kitB "bool" "int" = some true by decide +kernel), q⟩
  | int i => exact ⟨_, _, _, _, true, rfl, .ty _, .base (.int i), kit_ty (show kitB "int" "int" = some true by decide +kernel), q⟩
  | str z => exact ⟨_, _, _, _, false, rfl, .ty _, .base (.str z), kit_ty (show kitB "str" "int" = some false by decide +kernel), q⟩
  | ref a => obtain ⟨t, h1, h2, h3, h4⟩ := h; exact ⟨_, _, _, _, _, rfl, .ty _, h1, h2, q⟩
  | byt _ => exact h.elim
  | flt _ => exact h.elim
  | ty _ => exact h.elim
theorem is_str (h : Ty K H v) (q : Q (.bl (isStr v)) H) : rIsi K [v, .ty "str"] H Q := by
  cases v with
  | non => exact ⟨_, _, _, _, false, rfl, .ty _, .base .non, kit_ty (show kitB "NoneType" "str" = some false by decide +kernel), q⟩
  | bl b => exact ⟨_, _, _, _, false, rfl, .ty _, .base (.bl b), kit_ty (show kitB "bool" "str" = some false by decide +kernel), q⟩
  | int i => exact ⟨_, _, _, _, false, rfl, .ty _, .base (.int i), kit_ty (show kitB "int" "str" = some false by decide +kernel), q⟩
  | str z => exact ⟨_, _, _, _, true, rfl, .ty _, .base (.str z), kit_ty (show kitB "str" "str" = some true by decide +kernel), q⟩
  | ref a => obtain ⟨t, h1, h2, h3, h4⟩ := h; exact ⟨_, _, _, _, _, rfl, .ty _, h1, h3, q⟩
  | byt _ => exact h.elim
  | flt _ => exact h.elim
  | ty _ => exact h.elim
theorem is_bool (h : Ty K H v) (q : Q (.bl (isBl v)) H) : rIsi K [v, .ty "bool"] H Q := by
  cases v with
  | non => exact ⟨_, _, _, _, false, rfl, .ty _, .base .non, kit_ty (show kitB "NoneType" "bool" = some false by decide +kernel), q⟩
  | bl b => exact ⟨_, _, _, _, true, rfl, .ty _, .base (.bl b), kit_ty (show kitB "bool" "bool" = some true by decide +kernel), q⟩
  | int i => exact ⟨_, _, _, _, false, rfl, .ty _, .base (.int i), kit_ty (show kitB "int" "bool" = some false by decide +kernel), q⟩
  | str z => exact ⟨_, _, _, _, false, rfl, .ty _, .base (.str z), kit_ty (show kitB "str" "bool" = some false by decide +kernel), q⟩
  | ref a => obtain ⟨t, h1, h2, h3, h4⟩ := h; exact ⟨_, _, _, _, _, rfl, .ty _, h1, h4, q⟩
  | byt _ => exact h.elim
  | flt _ => exact h.elim
  | ty _ => exact h.elim
end
section
variable {K : PySem.W.Frag} {H : Hp} {a : Addr} {xs : List V} {kvs : List (Key × V)}
theorem Ty.lst (h : H a = some (.lst xs)) : Ty K H (.ref a) := ⟨_, .base (.lst h), kit_ty (show kitB "list" "int" = some false by decide +kernel), kit_ty (show kitB "list" "str" = some false by decide +kernel), kit_ty (show kitB "list" "bool" = some false by decide +kernel)⟩
theorem Ty.tup (h : H a = some (.tup xs)) : Ty K H (.ref a) := ⟨_, .base (.tup h), kit_ty (show kitB "tuple" "int" = some false by decide +kernel), kit_ty (show kitB "tuple" "str" = some false by decide +kernel), kit_ty (show kitB "tuple" "bool" = some false by decide +kernel)⟩
theorem Ty.dK (h : H a = some (.dK kvs)) : Ty K H (.ref a) := ⟨_, .base (.dK h), kit_ty (show kitB "dict" "int" = some false by decide +kernel), kit_ty (show kitB "dict" "str" = some false by decide +kernel), kit_ty (show kitB "dict" "bool" = some false by decide +kernel)⟩
end
/-- an own exception with these fields is let out -/
def Lets (E : XK) (C : Addr) (nm : Str) (fl : List Str) (vs : List V) (H : Hp) : Prop := ∀ (d t : Addr) (H' : Hp), H d = none → H t = none → Ex H H' → H' d = some (.xd (xFs fl vs t)) → H' t = some (.tup (.str nm :: vs)) → E (.ref C) (some d) H'
/-! ### choices out of written lists -/
def strLe (b : Nat) : V → Bool
  | .str z => decide ((cs z).length ≤ b)
  | _ => false
theorem strs_le {b : Nat} {xs : List V} (h : xs.all (strLe b) = true) {v : V} (hv : v ∈ xs) : ∃ z, v = .str z ∧ (cs z).length ≤ b := by
  have := List.all_eq_true.mp h v hv
  cases v with
  | str z => exact ⟨z, rfl, of_decide_eq_true this⟩
  | _ => cases this
def intIn (a b : Int) : V → Bool
  | .int i => decide (a ≤ i ∧ i ≤ b)
  | _ => false
theorem ints_in {a b : Int} {xs : List V} (h : xs.all (intIn a b) = true) {v : V} (hv : v ∈ xs) : ∃ i, v = .int i ∧ a ≤ i ∧ i ≤ b := by
  have := List.all_eq_true.mp h v hv
  cases v with
  | int i => exact ⟨i, rfl, of_decide_eq_true this⟩
  | _ => cases this
section
variable {K : PySem.W.Frag} {r p : Addr} {H : Hp} {xs : List V} {Q : VK} {E : XK}
theorem choose (hR : Rng r H) (hp : H p = none) (hne : xs ≠ []) (hl : xs.length ≤ 100000) (k : ∀ v H', v ∈ xs → Dr r H H' → Q v H') : spChoice K [.ref r, .ref p] (upd H p (.lst xs)) Q E :=
  ⟨r, p, xs, rfl, hR.ex (Ex.new hp), hR.ne hp, SqL.of upd_same, hne, hl, fun v H' hv d => k v H' hv ((Dr.new hR hp).trans d)⟩
theorem chooseS (b : Nat) (hR : Rng r H) (hp : H p = none) (h : xs.all (strLe b) = true) (hne : xs ≠ []) (hl : xs.length ≤ 100000) (k : ∀ (z : Str) H', (cs z).length ≤ b → Dr r H H' → Q (.str z) H') : spChoice K [.ref r, .ref p] (upd H p (.lst xs)) Q E :=
  choose hR hp hne hl fun v H' hv d => by
    obtain ⟨z, rfl, hz⟩ := strs_le h hv
    exact k z H' hz d
theorem chooseI (a b : Int) (hR : Rng r H) (hp : H p = none) (h : xs.all (intIn a b) = true) (hne : xs ≠ []) (hl : xs.length ≤ 100000) (k : ∀ (i : Int) H', a ≤ i → i ≤ b → Dr r H H' → Q (.int i) H') : spChoice K [.ref r, .ref p] (upd H p (.lst xs)) Q E :=
  choose hR hp hne hl fun v H' hv d => by
    obtain ⟨z, rfl, h1, h2⟩ := ints_in h hv
    exact k z H' h1 h2 d
theorem drawN {m : Int} (hR : Rng r H) (m0 : 0 < m) (m1 : m ≤ 100000) (k : ∀ (n : Nat) H', (n : Int) < m → Dr r H H' → Q (.int n) H') : spDraw [.ref r, .int m] H Q E :=
  ⟨r, m, rfl, hR, m0, m1, fun i H' h0 h1 d => by
    obtain ⟨n, rfl⟩ := Int.eq_ofNat_of_zero_le h0
    exact k n H' h1 d⟩
end
/-- a sum of small lengths -/
theorem sum_le {b : Nat} : ∀ {zs : List Str}, (∀ z ∈ zs, (cs z).length ≤ b) → (zs.map (·.length)).sum ≤ zs.length * b
  | [], _ => by simp
  | z :: zs, h => by
    have h1 := h z List.mem_cons_self
    have h2 := sum_le (zs := zs) fun u hu => h u (List.mem_cons_of_mem _ hu)
    rw [List.map_cons, List.sum_cons, List.length_cons, cs_len, Nat.succ_mul]
    omega
theorem joinL_len (s : List Nat) : ∀ ps : List (List Nat), (TL.joinL s ps).length ≤ (ps.map List.length).sum + ps.length * s.length
  | [] => by simp [TL.joinL]
  | [p] => by simp [TL.joinL]
  | p :: q :: r => by
    show (p ++ (s ++ TL.joinL s (q :: r))).length ≤ _
    have := joinL_len s (q :: r)
    rw [List.length_append, List.length_append, List.map_cons, List.sum_cons, List.length_cons, Nat.succ_mul]
    omega
theorem join_len (s : Str) (zs : List Str) {b : Nat} (h : ∀ z ∈ zs, (cs z).length ≤ b) : (cs (Txt.join s zs)).length ≤ zs.length * (b + (cs s).length) := by
  have e : cs (Txt.join s zs) = TL.joinL (cs s) (zs.map cs) := by rw [TL.join_eq]; exact TL.tl_join s zs
  rw [e]
  refine Nat.le_trans (joinL_len _ _) ?_
  have h2 := sum_le h
  have e2 : ((zs.map cs).map List.length) = zs.map (·.length) := by
    rw [List.map_map]
    exact List.map_congr_left fun z _ => (cs_len z).symm
  rw [e2, List.length_map, Nat.mul_add]
  omega
theorem cutS_le (z : Str) (lo hi : Option Int) : (cs (cutS z lo hi)).length ≤ (cs z).length := by
  rw [← cs_len, ← cs_len]
  exact cutS_length z lo hi
theorem cut_two (z : Str) (a b : Nat) (h : a ≤ b) : (cs (cutS z none (some (a : Int)))).length + (cs (cutS z (some (b : Int)) none)).length ≤ (cs z).length := by
  unfold cutS
  rw [HT.sIx_nat, HT.sIx_nat, HT.sIx_none, HT.sIx_none, cs_len]
  simp only [cs, List.length_take, List.length_drop]
  omega
/-- the flag is no harm -/
theorem Fq.up {P : Program} {w : World} {K : PySem.W.Frag} {mg : Str → Option Value} {base : Heap} {CX : CXT} {k : Nat} {f : Addr} {fd : FuncData} {ps : List Str} {sp : Sp} (F : Fq false P w K mg base CX k f fd ps sp) : Fq true P w K mg base CX k f fd ps sp :=
  ⟨F.len, fun A outer s H args us vs Q E _ => F.go A outer s H args us vs Q E gd_false⟩
end Ab

set_option Elab.async false
set_option linter.all false
set_option maxRecDepth 100000
set_option maxHeartbeats 4000000
/-! AbQ: == and != of equal things: flat values, lists, tuples, at any depth. -/
namespace Ab
open PySem PySem.Spec PyProof.Rows L2
def SimV (K : PySem.W.Frag) (H : Hp) : Nat → V → V → Prop
  | 0 => fun _ _ => False
  | n + 1 => fun x y => (x = y ∧ flatV x = true) ∨ (∃ a, x = .ref a ∧ y = .ref a) ∨ ∃ a b xs ys, x = .ref a ∧ y = .ref b ∧ ((SqL K H a xs ∧ SqL K H b ys) ∨ (SqT K H a xs ∧ SqT K H b ys)) ∧ Paired (SimV K H n) xs ys
def SimR (K : PySem.W.Frag) (H : Hp) (n : Nat) (x y : V) : Prop := (x = y ∧ flatV x = true) ∨ ∃ a b xs ys, x = .ref a ∧ y = .ref b ∧ ((SqL K H a xs ∧ SqL K H b ys) ∨ (SqT K H a xs ∧ SqT K H b ys)) ∧ Paired (SimV K H n) xs ys
theorem SimR.v {K : PySem.W.Frag} {H : Hp} {n : Nat} {x y : V} (h : SimR K H n x y) : SimV K H (n + 1) x y := h.elim .inl fun h => .inr (.inr h)
theorem flatB_of {v : V} (h : flatV v = true) : flatB v = true := by cases v <;> first | rfl | cases h
theorem scal_of {v : V} (h : flatV v = true) : scal v v = true := by cases v <;> first | rfl | cases h
section
variable {X : Cx} {pins : List (Addr × Obj)} {σ : L2.St} {H : Hp} {s : Shared}
theorem items_at {A : Around} {F : V → V → Prop} (ih : ∀ x y v u, F x y → RelV x v → RelV y u → SeqAt.EqAt A s v u true) {xs ys : List V} (hp : Paired F xs ys) :
    ∀ {us ws : List Value}, Vals xs us → Vals ys ws → ∀ j (h1 : j < us.length) (h2 : j < ws.length), SeqAt.EqAt A s us[j] ws[j] true := by
  induction hp with
  | nil =>
    intro us ws r1 r2 j h1 h2
    cases r1
    exact absurd h1 (Nat.not_lt_zero j)
  | cons h _ k =>
    intro us ws r1 r2 j h1 h2
    cases r1 with
    | cons a1 b1 =>
      cases r2 with
      | cons a2 b2 =>
        cases j with
        | zero => exact ih _ _ _ _ h a1 a2
        | succ j => exact k b1 b2 j (Nat.lt_of_succ_lt_succ h1) (Nat.lt_of_succ_lt_succ h2)
theorem all_true (n : Nat) : ((List.range n).all fun _ => true) = true := List.all_eq_true.mpr fun _ _ => rfl
theorem pair_at (I : Inv X pins σ H s) {A : Around} {F : V → V → Prop} (hu : A.units < cLine) (ih : ∀ x y v u, F x y → RelV x v → RelV y u → SeqAt.EqAt A.in1 s v u true) {a b : Addr} {xs ys : List V}
    (h : (SqL X.K H a xs ∧ SqL X.K H b ys) ∨ (SqT X.K H a xs ∧ SqT X.K H b ys)) (hp : Paired F xs ys) : SeqAt.RcAt A s (.ref a) (.ref b) true ∧ SeqAt.RcNeAt A s (.ref a) (.ref b) false := by
  rcases h with ⟨ha, hb⟩ | ⟨ha, hb⟩
  · obtain ⟨us, r1, p1, _⟩ := I.list ha
    obtain ⟨ws, r2, p2, _⟩ := I.list hb
    have hsz : us.toArray.size = ws.toArray.size := by
      rw [List.size_toArray, List.size_toArray, ← r1.length, ← r2.length]
      exact Paired.length hp
    have he : ∀ j (h1 : j < us.toArray.size) (h2 : j < ws.toArray.size), SeqAt.EqAt A.in1 s us.toArray[j] ws.toArray[j] ((fun _ => true) j) := fun j h1 h2 => by
      simpa using items_at ih hp r1 r2 j (by simpa using h1) (by simpa using h2)
    have k1 := SeqAt.RcAt.lists (e := fun _ => true) p1.isList p2.isList hsz hu he
    have k2 := SeqAt.RcNeAt.lists (e := fun _ => true) p1.isList p2.isList hsz hu he
    rw [all_true] at k1 k2
    exact ⟨k1, k2⟩
  · obtain ⟨us, r1, p1, _⟩ := I.tuple ha
    obtain ⟨ws, r2, p2, _⟩ := I.tuple hb
    have hsz : us.toArray.size = ws.toArray.size := by
      rw [List.size_toArray, List.size_toArray, ← r1.length, ← r2.length]
      exact Paired.length hp
    have he : ∀ j (h1 : j < us.toArray.size) (h2 : j < ws.toArray.size), SeqAt.EqAt A.in1 s us.toArray[j] ws.toArray[j] ((fun _ => true) j) := fun j h1 h2 => by
      simpa using items_at ih hp r1 r2 j (by simpa using h1) (by simpa using h2)
    have k1 := SeqAt.RcAt.tuples (e := fun _ => true) p1 p2 hu he
    have k2 := SeqAt.RcNeAt.tuples (e := fun _ => true) p1 p2 hu he
    rw [all_true, hsz, beq_self_eq_true] at k1 k2
    exact ⟨k1, k2⟩
theorem sim_at (I : Inv X pins σ H s) : ∀ (n : Nat) (A : Around), A.units + n < cLine → ∀ (x y : V) (v u : Value), SimV X.K H n x y → RelV x v → RelV y u → SeqAt.EqAt A s v u true
  | 0, _, _, _, _, _, _, h, _, _ => (show False from h).elim
  | n + 1, A, hu, x, y, v, u, h, rx, ry => by
    rcases h with ⟨rfl, f⟩ | ⟨a, rfl, rfl⟩ | ⟨a, b, xs, ys, rfl, rfl, h, hp⟩
    · exact eqAt_same rx ry (flatB_of f)
    · cases (show v = Value.ref a from rx)
      cases (show u = Value.ref a from ry)
      exact SeqAt.EqAt.same _
    · cases (show v = Value.ref a from rx)
      cases (show u = Value.ref b from ry)
      by_cases e : a = b
      · subst e
        exact SeqAt.EqAt.same _
      · exact SeqAt.EqAt.of_refs e (pair_at I (A := A) (by omega) (sim_at I n A.in1 (by show A.units + 1 + n < cLine; omega)) h hp).1
end
def rSimE (K : PySem.W.Frag) : R2 := fun x y H Q => ∃ n, n ≤ 60 ∧ SimR K H n x y ∧ Q (.bl true) H
def rSimN (K : PySem.W.Frag) : R2 := fun x y H Q => ∃ n, n ≤ 60 ∧ SimR K H n x y ∧ Q (.bl false) H
section
variable {X : Cx}
theorem op_simE (hu : X.A.units + 64 < cLine) : OpR X (compareOp .Eq) (rSimE X.K) := by
  intro pins s σ H x y v u Q I rx ry h
  obtain ⟨n, hn, h, q⟩ := h
  rcases h with ⟨rfl, f⟩ | ⟨a, b, xs, ys, rfl, rfl, h, hp⟩
  · exact op_eq pins s σ H x x v u Q I rx ry ⟨scal_of f, by rw [decide_eq_true rfl]; exact q⟩
  · cases (show v = Value.ref a from rx)
    cases (show u = Value.ref b from ry)
    exact (pair_at I (A := X.A) (by omega) (sim_at I n X.A.in1 (by show X.A.units + 1 + n < cLine; omega)) h hp).1 _ _ _ _ ⟨.bl true, H, I, rfl, q⟩
theorem op_simN (hu : X.A.units + 64 < cLine) : OpR X (compareOp .NotEq) (rSimN X.K) := by
  intro pins s σ H x y v u Q I rx ry h
  obtain ⟨n, hn, h, q⟩ := h
  rcases h with ⟨rfl, f⟩ | ⟨a, b, xs, ys, rfl, rfl, h, hp⟩
  · exact op_ne pins s σ H x x v u Q I rx ry ⟨scal_of f, by rw [decide_eq_true rfl]; exact q⟩
  · cases (show v = Value.ref a from rx)
    cases (show u = Value.ref b from ry)
    exact (pair_at I (A := X.A) (by omega) (sim_at I n X.A.in1 (by show X.A.units + 1 + n < cLine; omega)) h hp).2 _ _ _ _ ⟨.bl false, H, I, rfl, q⟩
end
/-- flat items -/
theorem sim_flat {K : PySem.W.Frag} {H : Hp} {n : Nat} : ∀ {xs : List V}, (∀ x ∈ xs, flatV x = true) → Paired (SimV K H (n + 1)) xs xs
  | [], _ => .nil
  | x :: xs, h => .cons (.inl ⟨rfl, h x List.mem_cons_self⟩) (sim_flat fun y hy => h y (List.mem_cons_of_mem _ hy))
theorem SimR.flatL {K : PySem.W.Frag} {H : Hp} {a b : Addr} {xs : List V} (ha : SqL K H a xs) (hb : SqL K H b xs) (h : ∀ x ∈ xs, flatV x = true) : SimR K H 1 (.ref a) (.ref b) := .inr ⟨a, b, xs, xs, rfl, rfl, .inl ⟨ha, hb⟩, sim_flat h⟩
theorem SimR.flatT {K : PySem.W.Frag} {H : Hp} {a b : Addr} {xs : List V} (ha : SqT K H a xs) (hb : SqT K H b xs) (h : ∀ x ∈ xs, flatV x = true) : SimR K H 1 (.ref a) (.ref b) := .inr ⟨a, b, xs, xs, rfl, rfl, .inr ⟨ha, hb⟩, sim_flat h⟩
theorem SimV.mono {K : PySem.W.Frag} {H : Hp} : ∀ {n m : Nat} {x y : V}, n ≤ m → SimV K H n x y → SimV K H m x y
  | 0, _, _, _, _, h => (show False from h).elim
  | n + 1, 0, _, _, h, _ => absurd h (by omega)
  | n + 1, m + 1, x, y, hm, h => by
    rcases h with h | h | ⟨a, b, xs, ys, e1, e2, h, hp⟩
    · exact .inl h
    · exact .inr (.inl h)
    · refine .inr (.inr ⟨a, b, xs, ys, e1, e2, h, ?_⟩)
      clear h e1 e2
      induction hp with
      | nil => exact .nil
      | cons q _ k => exact .cons (SimV.mono (by omega) q) k
end Ab

set_option Elab.async false
set_option linter.all false
set_option maxRecDepth 100000
set_option maxHeartbeats 4000000
/-! AbV: repr of data: flat values, lists and tuples at any depth, dicts of flat values. -/
namespace Ab
open PySem PySem.Spec PyProof.Rows L2
def fD : V → PyData
  | .bl b => .bool b
  | .int i => .int i
  | .str z => .str z
  | _ => .none
theorem fD_dp {K : PySem.W.Frag} {H : Hp} {v : V} (h : flatV v = true) : Dp K H v (fD v) := by
  cases v with
  | non => exact .non
  | bl b => exact .bl b
  | int i => exact .int i
  | str z => exact .str z
  | _ => cases h
theorem fD_all {K : PySem.W.Frag} {H : Hp} : ∀ {vs : List V}, (∀ v ∈ vs, flatV v = true) → DpAll K H vs (vs.map fD)
  | [], _ => .nil
  | v :: vs, h => .cons (fD_dp (h v List.mem_cons_self)) (fD_all fun x hx => h x (List.mem_cons_of_mem _ hx))
theorem fD_reads {h : Heap} {v : V} {u : Value} (f : flatV v = true) (r : RelV v u) : Reads h u (fD v) [] := by
  cases v with
  | non => cases r; exact .none
  | bl b => cases r; exact .bool b
  | int i => obtain ⟨t, rfl⟩ := r; exact .int i t
  | str z => obtain ⟨t, rfl⟩ := r; exact .str z t
  | _ => cases f
def Rdt (K : PySem.W.Frag) (H : Hp) (v : V) (d : PyData) : Prop := Dp K H v d ∨ ∃ a kvs, v = .ref a ∧ H a = some (.dK kvs) ∧ (∀ p ∈ kvs, flatV p.2 = true) ∧ d = .dict (kvs.map fun p => (fD (kV p.1), fD p.2))
mutual
theorem dp_nodict {K : PySem.W.Frag} {H : Hp} : ∀ (d : PyData) (v : V), Dp K H v d → d.hasDict = false
  | .none, _, _ => rfl
  | .bool _, _, _ => rfl
  | .int _, _, _ => rfl
  | .str _, _, _ => rfl
  | .list xs, _, h => by
    cases h with
    | lst _ h2 => exact dpAll_nodict xs _ h2
  | .tuple xs, _, h => by
    cases h with
    | tup _ h2 => exact dpAll_nodict xs _ h2
  | .dict _, _, h => by cases h
theorem dpAll_nodict {K : PySem.W.Frag} {H : Hp} : ∀ (ds : List PyData) (vs : List V), DpAll K H vs ds → PyData.hasDictAll ds = false
  | [], _, _ => rfl
  | d :: ds, _, h => by
    cases h with
    | cons h1 h2 =>
      show (d.hasDict || PyData.hasDictAll ds) = false
      rw [dp_nodict d _ h1, dpAll_nodict ds _ h2]
      rfl
end
def rReprD (K : PySem.W.Frag) : List V → Hp → VK → Prop := fun xs H Q => ∃ v d, xs = [v] ∧ Rdt K H v d ∧ d.showable = true ∧ d.depth ≤ 60 ∧ d.shown.length ≤ sizeLine ∧ Q (.str d.shown) H
section
variable {X : Cx}
theorem ents_reads {P : Program} {w : World} {h : Heap} : ∀ {kvs : List (Key × V)} {ws : List (Key × Value)} {es : List DictEntry}, KV kvs ws → Pairs (mixKind P w) es ws → (∀ p ∈ kvs, flatV p.2 = true) →
    ReadsAll h (es.map (·.key)) ((kvs.map fun p => (fD (kV p.1), fD p.2)).map (·.1)) [] ∧ ReadsAll h (es.map (·.val)) ((kvs.map fun p => (fD (kV p.1), fD p.2)).map (·.2)) []
  | _, _, _, .nil, .nil, _ => ⟨.nil, .nil⟩
  | p :: _, q :: _, e :: _, .cons r rs, .cons h1 h2 h3, hf => by
    obtain ⟨k1, k2⟩ := ents_reads (h := h) rs h3 fun x hx => hf x (List.mem_cons_of_mem _ hx)
    refine ⟨.cons (as := []) (bs := []) (fD_reads (v := kV p.1) (by cases p.1 <;> rfl) ?_) k1, .cons (as := []) (bs := []) (fD_reads (hf p List.mem_cons_self) ?_) k2⟩
    · show L2.RelV (kV p.1) e.key
      rw [r.1]
      rcases keyIs_shape h1 with ⟨i, t, e1, e2⟩ | ⟨x, t, e1, e2⟩
      · rw [e1, e2]; exact ⟨t, rfl⟩
      · rw [e1, e2]; exact ⟨t, rfl⟩
    · show L2.RelV p.2 e.val
      rw [h2]
      exact r.2
theorem call_reprD (hg : X.A.guards = some []) (hu : X.A.units + 64 < cLine) : CallR X (.builtin "repr") (rReprD X.K) := by
  intro pins s σ H xs us Q I r h
  obtain ⟨v, d, rfl, hd, hs, hdep, hsz, q⟩ := h
  obtain ⟨u, rfl, ru⟩ := vals1 r
  rcases hd with hd | ⟨a, kvs, rfl, ha, hf, rfl⟩
  · cases hd with
    | non => cases ru; exact PySem.P.repr_of_none ⟨.str _, H, I.tok _, ⟨_, rfl⟩, q⟩
    | bl b =>
      cases ru
      cases b
      · exact PySem.P.repr_of_bool (b := false) ⟨.str _, H, I.tok _, ⟨_, rfl⟩, q⟩
      · exact PySem.P.repr_of_bool (b := true) ⟨.str _, H, I.tok _, ⟨_, rfl⟩, q⟩
    | int i =>
      obtain ⟨t, rfl⟩ := ru
      exact PySem.P.repr_of_int (of_decide_eq_true hs) ⟨.str _, H, I.tok _, ⟨_, rfl⟩, q⟩
    | str x =>
      obtain ⟨t, rfl⟩ := ru
      exact PySem.P.repr_of_str ⟨.str _, H, I.tok _, ⟨_, rfl⟩, q⟩ hsz
    | @lst a xs ds h1 h2 =>
      cases ru
      obtain ⟨as, rd⟩ := Dp.reads I (.list ds) (.ref a) (.ref a) (.lst h1 h2) rfl
      exact repr_of_reads' rd hs (fun z => by rw [dp_nodict _ _ (Dp.lst h1 h2)] at z; cases z) hg (by omega) (fun _ _ e => e) (fun h' u tk kp => ⟨.str _, H, I.kept kp, ⟨u, rfl⟩, q⟩) hsz
    | @tup a xs ds h1 h2 =>
      cases ru
      obtain ⟨as, rd⟩ := Dp.reads I (.tuple ds) (.ref a) (.ref a) (.tup h1 h2) rfl
      exact repr_of_reads' rd hs (fun z => by rw [dp_nodict _ _ (Dp.tup h1 h2)] at z; cases z) hg (by omega) (fun _ _ e => e) (fun h' u tk kp => ⟨.str _, H, I.kept kp, ⟨u, rfl⟩, q⟩) hsz
  · cases ru
    obtain ⟨_, hsm, ws, rw', o, es, ep, ho, hx, hda, _, hp, _⟩ := dk_of I.hok ha
    obtain ⟨k1, k2⟩ := ents_reads (h := s.heap) rw' hp hf
    have rd : Reads s.heap (.ref a) (.dict (kvs.map fun p => (fD (kV p.1), fD p.2))) (a :: [] ++ []) := .dict ho hx.1 hda k1 k2
    exact repr_of_reads' rd hs (fun _ z => by
      have : sysModules = a := by simpa using z
      rw [← this] at hsm
      simp at hsm) hg (by omega) (fun _ _ e => e) (fun h' u tk kp => ⟨.str _, H, I.kept kp, ⟨u, rfl⟩, q⟩) hsz
theorem call_reprK {K : PySem.W.Frag} (hK : X.K = K) (hg : X.A.guards = some []) (hu : X.A.units + 64 < cLine) : CallR X (.builtin "repr") (rReprD K) := by
  subst hK
  exact call_reprD hg hu
end
end Ab

set_option Elab.async false
set_option linter.all false
set_option maxRecDepth 100000
set_option maxHeartbeats 4000000
/-! AbW: the program's values as plain functions. -/
namespace Ab
open PySem PySem.Spec PyProof.Rows L2
abbrev lets : Str := "abcdefghijklmnopqrstuvwxyz"
def isNm : V → Bool
  | .str z => decide (1 ≤ (cs z).length) && (decide ((cs z).length ≤ 8) && (cs z).all fun c => decide (c ∈ cs lets))
  | _ => false
def isCt : V → Bool
  | .int i => decide (0 ≤ i)
  | _ => false
def fitI (m : Bool) : V → Bool
  | .non => m
  | .int i => decide ((if i < 0 then -i else i) < 10 ^ 30)
  | _ => false
def fitT (m : Bool) : V → Bool
  | .non => m
  | .str z => decide ((cs z).length ≤ 60) && !decide (39 ∈ cs z)
  | _ => false
def fitB (m : Bool) : V → Bool
  | .non => m
  | .bl _ => true
  | _ => false
def isV (s v : V) (m : Bool) : Bool := if s = .str "int" then fitI m v else if s = .str "text" then fitT m v else if s = .str "truth" then fitB m v else false
theorem isV_int (v : V) (m : Bool) : isV (.str "int") v m = fitI m v := if_pos rfl
theorem isV_text (v : V) (m : Bool) : isV (.str "text") v m = fitT m v := by
  unfold isV
  rw [if_neg (by decide +kernel), if_pos rfl]
theorem isV_truth (v : V) (m : Bool) : isV (.str "truth") v m = fitB m v := by
  unfold isV
  rw [if_neg (by decide +kernel), if_neg (by decide +kernel), if_pos rfl]
theorem isV_no (s v : V) (m : Bool) (h : s ≠ .str "int" ∧ s ≠ .str "text" ∧ s ≠ .str "truth") : isV s v m = false := by
  unfold isV
  rw [if_neg h.1, if_neg h.2.1, if_neg h.2.2]
/-- [c in S for c in z] -/
theorem lc_inS {z S : Str} {j : Nat} {σ : L2.St} {H : Hp} {Q : VK} (hz : (cs z).length ≤ 1000) (hw : ∀ x, wipe ((wipe σ [j]).set j (some x)) [j] = wipe σ [j]) (hj : ∀ x, ((wipe σ [j]).set j (some x))[j]? = some (some x))
    (done : ∀ D H', H D = none → Ex H H' → H' D = some (.lst ((cs z).map fun c => .bl (decide (c ∈ cs S)))) → Q (.ref D) H') :
    LcF (Its z) (gName j) tYes (tOp (fun x y H Q => ∃ c, x = V.str { cps := #[c] } ∧ ∃ x, y = V.str x ∧ Q (V.bl (decide (c ∈ x.cps.toList))) H) (tVar j) (tC (V.str S))) [j] σ H Q := by
  have lz : z.cps.size = (cs z).length := by simp
  refine lc_val walk_str (fun _ _ => trivial) (by rw [lz]; omega) (fun i => .bl (decide ((cs z).getD i 0 ∈ cs S))) (fun i x H' H2 hi e hY Qn k => ?_) fun D H' hD e hl => done D H' hD e ?_
  · obtain ⟨rfl, c, hc, rfl⟩ := hY
    refine ⟨hw _, _, hj _, c, rfl, S, rfl, ?_⟩
    have e : (cs z).getD i 0 = c := by
      rw [List.getD_eq_getElem?_getD]
      have : (cs z)[i]? = some c := by simpa using hc
      rw [this]; rfl
    rw [← e]
    exact k _ (Same.refl _)
  · rw [hl]
    congr 2
    apply List.ext_getElem?
    intro i
    rw [List.getElem?_map, List.getElem?_map, lz]
    by_cases hi : i < (cs z).length
    · have h1 : (cs z)[i]? = some (cs z)[i] := List.getElem?_eq_getElem hi
      rw [List.getElem?_range hi, h1, Option.map_some, Option.map_some, List.getD_eq_getElem?_getD, h1]
      rfl
    · rw [List.getElem?_eq_none (by rw [List.length_range]; omega), List.getElem?_eq_none (by omega)]
      rfl
theorem lc_inV {z S : Str} {j l : Nat} {σ : L2.St} {H : Hp} {Q : VK} (hz : (cs z).length ≤ 1000) (hw : ∀ x, wipe ((wipe σ [j]).set j (some x)) [j] = wipe σ [j]) (hj : ∀ x, ((wipe σ [j]).set j (some x))[j]? = some (some x))
    (hl : ∀ x, ((wipe σ [j]).set j (some x))[l]? = some (some (.str S)))
    (done : ∀ D H', H D = none → Ex H H' → H' D = some (.lst ((cs z).map fun c => .bl (decide (c ∈ cs S)))) → Q (.ref D) H') :
    LcF (Its z) (gName j) tYes (tOp (fun x y H Q => ∃ c, x = V.str { cps := #[c] } ∧ ∃ x, y = V.str x ∧ Q (V.bl (decide (c ∈ x.cps.toList))) H) (tVar j) (tVar l)) [j] σ H Q := by
  have lz : z.cps.size = (cs z).length := by simp
  refine lc_val walk_str (fun _ _ => trivial) (by rw [lz]; omega) (fun i => .bl (decide ((cs z).getD i 0 ∈ cs S))) (fun i x H' H2 hi e hY Qn k => ?_) fun D H' hD e hl => done D H' hD e ?_
  · obtain ⟨rfl, c, hc, rfl⟩ := hY
    refine ⟨hw _, _, hj _, _, hl _, c, rfl, S, rfl, ?_⟩
    have e : (cs z).getD i 0 = c := by
      rw [List.getD_eq_getElem?_getD]
      have : (cs z)[i]? = some c := by simpa using hc
      rw [this]; rfl
    rw [← e]
    exact k _ (Same.refl _)
  · rw [hl]
    congr 2
    apply List.ext_getElem?
    intro i
    rw [List.getElem?_map, List.getElem?_map, lz]
    by_cases hi : i < (cs z).length
    · have h1 : (cs z)[i]? = some (cs z)[i] := List.getElem?_eq_getElem hi
      rw [List.getElem?_range hi, h1, Option.map_some, Option.map_some, List.getD_eq_getElem?_getD, h1]
      rfl
    · rw [List.getElem?_eq_none (by rw [List.length_range]; omega), List.getElem?_eq_none (by omega)]
      rfl
/-! ### what the predicates promise -/
def spB (K : PySem.W.Frag) (f : V → Bool) : Sp := fun vs H Q _ => ∃ v, vs = [v] ∧ Ty K H v ∧ ∀ H', Ex H H' → Q (.bl (f v)) H'
def spV (K : PySem.W.Frag) : Sp := fun vs H Q _ => ∃ s v m, vs = [s, v, .bl m] ∧ Ty K H s ∧ Ty K H v ∧ ∀ H', Ex H H' → Q (.bl (isV s v m)) H'
theorem txt_part {K : PySem.W.Frag} {H : Hp} {Q : VK} {y : Str} {m : Bool} (hT : Ty K H (.str y)) (hQ : ∀ H', Ex H H' → Q (.bl (fitT m (.str y))) H') :
    ∃ z, V.str y = V.str z ∧ z.length ≤ sizeLine ∧ if (z.length : Int) ≤ 60 then ∃ c, Str.ofString "'" = { cps := #[c] } ∧ ∃ x, V.str y = V.str x ∧ Q (V.bl !decide (c ∈ x.cps.toList)) H else Q (V.bl false) H := by
  have hz : (cs y).length ≤ 1000000 := hT
  have lz : y.length = (cs y).length := by show y.cps.size = _; simp
  refine ⟨y, rfl, by rw [lz]; exact Nat.le_trans hz (by decide), ite2 (fun h1 => ⟨39, by decide +kernel, y, rfl, ?_⟩) (fun h1 => ?_)⟩
  · have e : (!decide (39 ∈ y.cps.toList)) = fitT m (.str y) := by
      show _ = (decide ((cs y).length ≤ 60) && !decide (39 ∈ cs y))
      rw [decide_eq_true (show (cs y).length ≤ 60 by omega), Bool.true_and]
    rw [e]
    exact hQ _ (Same.refl _)
  · have e : fitT m (.str y) = false := by
      show (decide ((cs y).length ≤ 60) && !decide (39 ∈ cs y)) = false
      rw [decide_eq_false (show ¬ (cs y).length ≤ 60 by omega), Bool.false_and]
    rw [← e]
    exact hQ _ (Same.refl _)
/-- short, and plain signs alone -/
def Gn (n : Nat) (z : Str) : Prop := (cs z).length ≤ n ∧ ∀ c ∈ cs z, c < 128
instance (n : Nat) (z : Str) : Decidable (Gn n z) := by unfold Gn; infer_instance
theorem Gn.le {n m : Nat} {z : Str} (h : Gn n z) (e : n ≤ m) : Gn m z := ⟨Nat.le_trans h.1 e, h.2⟩
theorem Gn.app {n m : Nat} {a b : Str} (ha : Gn n a) (hb : Gn m b) : Gn (n + m) (a ++ b) := by
  refine ⟨?_, fun c hc => ?_⟩
  · rw [cs_app_len]
    have := ha.1
    have := hb.1
    omega
  · rw [cs_app] at hc
    rcases List.mem_append.mp hc with h | h
    · exact ha.2 c h
    · exact hb.2 c h
theorem Gn.cut {n : Nat} {z : Str} (h : Gn n z) (lo hi : Option Int) : ∀ c ∈ cs (cutS z lo hi), c < 128 := fun c hc => by
  have hc' : c ∈ ((cs z).drop (HT.sIx z.length 0 lo)).take (HT.sIx z.length z.length hi - HT.sIx z.length 0 lo) := by simpa [cutS, cs] using hc
  exact h.2 c (List.mem_of_mem_drop (List.mem_of_mem_take hc'))
theorem gn_repr {n : Nat} {z : Str} (h : Gn n z) : (reprText z).length ≤ 10 * n + 2 := by
  have := StrLaws.reprText_len z fun c hc => Nat.lt_of_lt_of_le (h.2 c hc) (by decide)
  have e := cs_len z
  have := h.1
  omega
def strGn (b : Nat) : V → Bool
  | .str z => decide (Gn b z)
  | _ => false
theorem strs_gn {b : Nat} {xs : List V} (h : xs.all (strGn b) = true) {v : V} (hv : v ∈ xs) : ∃ z, v = .str z ∧ Gn b z := by
  have := List.all_eq_true.mp h v hv
  cases v with
  | str z => exact ⟨z, rfl, of_decide_eq_true this⟩
  | _ => cases this
theorem chooseG {K : PySem.W.Frag} {r p : Addr} {H : Hp} {xs : List V} {Q : VK} {E : XK} (b : Nat) (hR : Rng r H) (hp : H p = none) (h : xs.all (strGn b) = true) (hne : xs ≠ []) (hl : xs.length ≤ 100000) (k : ∀ (z : Str) H', Gn b z → Dr r H H' → Q (.str z) H') : spChoice K [.ref r, .ref p] (upd H p (.lst xs)) Q E :=
  choose hR hp hne hl fun v H' hv d => by
    obtain ⟨z, rfl, hz⟩ := strs_gn h hv
    exact k z H' hz d
theorem at_get {z : List Nat} {i : Nat} (h : i < z.length) : atI z (i : Int) = some (z.getD i 0) := atI_nat (by rw [List.getD_eq_getElem?_getD, List.getElem?_eq_getElem h]; rfl)
theorem at_last {z : List Nat} (h : 0 < z.length) : atI z (-1) = some (z.getD (z.length - 1) 0) := by
  have hz : z ≠ [] := List.ne_nil_of_length_pos h
  have e := atI_last z.dropLast (z.getLast hz)
  rw [List.dropLast_concat_getLast] at e
  rw [e, List.getLast_eq_getElem, List.getD_eq_getElem?_getD, List.getElem?_eq_getElem (by omega)]
  rfl
theorem hd_get {z : List Nat} (h : 0 < z.length) : z.head? = some (z.getD 0 0) := by
  cases z with
  | nil => cases h
  | cons c r => rfl
theorem lst_get {z : List Nat} (h : 0 < z.length) : z.getLast? = some (z.getD (z.length - 1) 0) := by
  rw [List.getLast?_eq_getElem?, List.getD_eq_getElem?_getD, List.getElem?_eq_getElem (by omega)]
  rfl
theorem qu1 : Str.ofString "'" = ⟨#[39]⟩ := by decide +kernel
theorem one_eq {c d : Nat} : (⟨#[c]⟩ : Str) = ⟨#[d]⟩ ↔ c = d := by
  constructor
  · intro h
    have := congrArg (fun z : Str => z.cps.toList) h
    simpa using this
  · rintro rfl; rfl
theorem one_q {c : Nat} : (⟨#[c]⟩ : Str) = Str.ofString "'" ↔ c = 39 := by rw [qu1, one_eq]
theorem cut_mid (y : Str) (a : Nat) : (cs (cutS y (some (a : Int)) (some ((a : Int) + 1)))).length ≤ 1 := by
  show (cs (cutS y (some (a : Int)) (some ((a + 1 : Nat) : Int)))).length ≤ 1
  unfold cutS
  rw [HT.sIx_nat, HT.sIx_nat]
  simp only [cs, List.length_take, List.length_drop]
  omega
/-- a text with its middle put anew -/
theorem glue {n a b : Nat} {y m : Str} (h : Gn n y) (hn : n ≤ 100000) (hab : a ≤ b) (hm : Gn 1 m) : Gn (n + 1) (cutS y none (some (a : Int)) ++ m ++ cutS y (some (b : Int)) none) ∧ (cutS y none (some (a : Int))).length + m.length ≤ sizeLine ∧ (cutS y none (some (a : Int)) ++ m).length + (cutS y (some (b : Int)) none).length ≤ sizeLine := by
  have c := cut_two y a b hab
  have hy := h.1
  have hm1 := hm.1
  refine ⟨⟨?_, fun d hd => ?_⟩, ?_, ?_⟩
  · rw [cs_app_len, cs_app_len]; omega
  · rw [cs_app, cs_app] at hd
    rcases List.mem_append.mp hd with hd | hd
    · rcases List.mem_append.mp hd with hd | hd
      · exact h.cut _ _ d hd
      · exact hm.2 d hd
    · exact h.cut _ _ d hd
  · rw [cs_len, cs_len]; exact Nat.le_trans (show _ ≤ 1000000 by omega) (by decide)
  · rw [cs_len, cs_len, cs_app_len]; exact Nat.le_trans (show _ ≤ 1000000 by omega) (by decide)
theorem upper_gn {n : Nat} {m : Str} (h : Gn n m) : Gn n (Txt.upper m) := by
  rw [PyProof.Rows.upper_ascii h.2]
  have e : cs (⟨m.cps.map PyProof.Rows.up1⟩ : Str) = (cs m).map PyProof.Rows.up1 := by
    show (m.cps.map _).toList = _
    rw [Array.toList_map]
  refine ⟨by rw [e, List.length_map]; exact h.1, fun c hc => ?_⟩
  rw [e] at hc
  obtain ⟨d, hd, rfl⟩ := List.mem_map.mp hc
  have all : ∀ d : Nat, d < 128 → PyProof.Rows.up1 d < 128 := by decide
  exact all d (h.2 d hd)
theorem one_gn {c : Nat} (h : c < 128) : Gn 1 ⟨#[c]⟩ := ⟨Nat.le_refl _, fun d hd => by
  have : d = c := by simpa [cs] using hd
  rw [this]
  exact h⟩
theorem repS_gn {n : Nat} {z : Str} (k : Nat) (h : Gn n z) : Gn (k * n) (repS z k) := ⟨by rw [repS_len]; exact Nat.mul_le_mul_left _ h.1, fun c hc => h.2 c (repS_mem hc)⟩
theorem repS_sz (z : Str) (n : Nat) : (repS z n).length = n * z.length := by rw [cs_len, repS_len, cs_len]
/-- texts of plain signs alone -/
def GnL (n : Nat) (xs : List V) : Prop := ∀ v ∈ xs, ∃ z, v = .str z ∧ Gn n z
theorem GnL.app {n : Nat} {xs ys : List V} (h1 : GnL n xs) (h2 : GnL n ys) : GnL n (xs ++ ys) := fun v hv => (List.mem_append.mp hv).elim (h1 v) (h2 v)
end Ab

set_option Elab.async false
set_option linter.all false
set_option maxRecDepth 100000
set_option maxHeartbeats 4000000
/-! AbY: comprehensions with a test, str of ints and bools, lists of different lengths. -/
namespace Ab
open PySem PySem.Spec PyProof.Rows L2
/-- items that pass a test, each shown by f -/
theorem lc_filt {J : It} {n : Nat} {G : Hp → Prop} {Y : Nat → Hp → V → Hp → Prop} (w : Walk J n G Y) {g : TG} {tt : TT} {te : TE} {vs : List Nat} {σ : L2.St} {H : Hp} {Q : VK} (hG : ∀ H', Ex H H' → G H') (hn : n ≤ 100000) (p : Nat → Bool) (f : Nat → V)
    (comb : ∀ i x H' H2, i < n → Ex H H' → Y i H' x H2 → ∀ (R : Bool → L2.St → Hp → Prop), (∀ σ2 H4, Ex H' H4 → (∀ H5, Ex H4 H5 → ∀ Qn : VK, (∀ H6, Ex H5 H6 → Qn (f i) H6) → te σ2 H5 Qn) → R (p i) σ2 H4) → g x (wipe σ vs) H2 fun σ2 H3 => wipe σ2 vs = wipe σ vs ∧ tt σ2 H3 fun b H4 => R b σ2 H4)
    (done : ∀ D H', H D = none → Ex H H' → H' D = some (.lst (((List.range n).filter p).map f)) → Q (.ref D) H') : LcF J g tt te vs σ H Q := by
  intro D hD
  refine lc_it w (Qd := fun H => Q (.ref D) H) (fun i H' => Ex H H' ∧ H' D = some (.lst (((List.range i).filter p).map f))) ⟨Ex.new hD, by rw [upd_same]; rfl⟩ (fun i H' _ q => hG H' q.1) ?_ ?_
  · rintro i x H' H2 hi ⟨e, hl⟩ hY
    refine comb i x H' H2 hi e hY _ fun σ2 H4 e4 el => ?_
    by_cases hp : p i = true
    · rw [if_pos hp]
      refine el H4 (Same.refl _) _ fun H6 e6 => ⟨_, e6 _ _ (e4 _ _ hl), ?_, Ex.keep (Same.trans (Same.trans e e4) e6) hD, ?_⟩
      · have : (((List.range i).filter p).map f).length ≤ i := by
          rw [List.length_map]
          refine Nat.le_trans (List.length_filter_le _ _) ?_
          rw [List.length_range]
          exact Nat.le_refl _
        exact Nat.lt_of_le_of_lt (show _ ≤ 100000 by omega) (by decide)
      · rw [upd_same, List.range_succ, List.filter_append, List.map_append]
        simp [hp]
    · rw [if_neg hp]
      refine ⟨Same.trans e e4, ?_⟩
      rw [e4 _ _ hl, List.range_succ, List.filter_append, List.map_append]
      simp [hp]
  · rintro H' ⟨e, hl⟩
    exact done D H' hD e hl
section
variable {X : Cx}
/-- str of an int or a bool -/
theorem call_strIB : CallR X (.type "str") (fun xs H Q => ∃ v, xs = [v] ∧ ((∃ i : Int, v = .int i ∧ i.natAbs.log2 < 1920) ∨ ∃ b, v = .bl b) ∧ Q (.str (fD v).shown) H) := by
  intro pins s σ H xs us Q I r h
  obtain ⟨v, rfl, h, q⟩ := h
  rcases h with ⟨i, rfl, hz⟩ | ⟨b, rfl⟩
  · obtain ⟨u, rfl, t, rfl⟩ := vals1 r
    exact PySem.P.str_of_int hz ⟨.str _, H, I.tok _, ⟨_, rfl⟩, q⟩
  · obtain ⟨u, rfl, ru⟩ := vals1 r
    cases ru
    cases b
    · exact PySem.P.str_of_bool (b := false) ⟨.str _, H, I.tok _, ⟨_, rfl⟩, q⟩
    · exact PySem.P.str_of_bool (b := true) ⟨.str _, H, I.tok _, ⟨_, rfl⟩, q⟩
/-- two lists: equal, or of different lengths -/
def rEqL (K : PySem.W.Frag) : R2 := fun x y H Q => (∃ a b xs ys, x = .ref a ∧ y = .ref b ∧ SqL K H a xs ∧ SqL K H b ys ∧ xs.length ≠ ys.length ∧ Q (.bl false) H) ∨ ∃ n, n ≤ 60 ∧ SimR K H n x y ∧ Q (.bl true) H
theorem op_eqL (hu : X.A.units + 64 < cLine) : OpR X (compareOp .Eq) (rEqL X.K) := by
  intro pins s σ H x y v u Q I rx ry h
  rcases h with ⟨a, b, xs, ys, rfl, rfl, ha, hb, hl, q⟩ | h
  · cases (show v = Value.ref a from rx)
    cases (show u = Value.ref b from ry)
    obtain ⟨us, r1, p1, _⟩ := I.list ha
    obtain ⟨ws, r2, p2, _⟩ := I.list hb
    refine SeqAt.RcAt.lists_lengths p1.isList p2.isList ?_ (by omega) _ _ _ _ ⟨.bl false, H, I, rfl, q⟩
    rw [List.size_toArray, List.size_toArray, ← r1.length, ← r2.length]
    simpa using hl
  · exact op_simE hu pins s σ H x y v u Q I rx ry h
end
end Ab

set_option Elab.async false
set_option linter.all false
set_option maxRecDepth 100000
set_option maxHeartbeats 4000000
namespace K14
open PySem PySem.Spec PyProof.Rows L2 Ab
def top (i : Nat) : Stmt := PySem.Challenge.pw_aboveless_k14_texts_of_values.main.body.getD i (.Pass ⟨0, 0, 0, 0⟩)
abbrev s_is_integer : Stmt := top 17
abbrev N_is_integer : List Str := ["value"]
theorem sc_is_integer : FnScope N_is_integer ["value"] (defScope s_is_integer) :=
  ⟨rfl, rfl, rfl, by decide +kernel, rfl, by decide +kernel, by decide +kernel⟩
def d_is_integer : He.DefD := ⟨("is_integer", none), "is_integer", "is_integer", defArgs s_is_integer, defBody s_is_integer, defScope s_is_integer, [], []⟩
theorem b_is_integer {K : PySem.W.Frag} : ∀ fd, FunD K d_is_integer.name d_is_integer.qual d_is_integer.params d_is_integer.body d_is_integer.scope (d_is_integer.dvs K) (d_is_integer.kws K) (He.fAd K d_is_integer.at_) fd → Bw K fd ["value"] 1 [] gPos :=
  fun fd F => bw_pos F 1 rfl (fun _ _ _ _ _ _ us hl => match us, hl with | [_], _ => rfl)
abbrev s_is_value : Stmt := top 18
abbrev N_is_value : List Str := ["sort", "value", "may_be_empty"]
theorem sc_is_value : FnScope N_is_value ["sort", "value", "may_be_empty"] (defScope s_is_value) :=
  ⟨rfl, rfl, rfl, by decide +kernel, rfl, by decide +kernel, by decide +kernel⟩
def d_is_value : He.DefD := ⟨("is_value", none), "is_value", "is_value", defArgs s_is_value, defBody s_is_value, defScope s_is_value, [], [("may_be_empty", .bl false)]⟩
abbrev s_value_text : Stmt := top 19
abbrev N_value_text : List Str := ["value"]
theorem sc_value_text : FnScope N_value_text ["value"] (defScope s_value_text) :=
  ⟨rfl, rfl, rfl, by decide +kernel, rfl, by decide +kernel, by decide +kernel⟩
def d_value_text : He.DefD := ⟨("value_text", none), "value_text", "value_text", defArgs s_value_text, defBody s_value_text, defScope s_value_text, [], []⟩
theorem b_value_text {K : PySem.W.Frag} : ∀ fd, FunD K d_value_text.name d_value_text.qual d_value_text.params d_value_text.body d_value_text.scope (d_value_text.dvs K) (d_value_text.kws K) (He.fAd K d_value_text.at_) fd → Bw K fd ["value"] 1 [] gPos :=
  fun fd F => bw_pos F 1 rfl (fun _ _ _ _ _ _ us hl => match us, hl with | [_], _ => rfl)
abbrev s_integer_in : Stmt := top 20
abbrev N_integer_in : List Str := ["text", "figures", "sign"]
theorem sc_integer_in : FnScope N_integer_in ["text"] (defScope s_integer_in) :=
  ⟨rfl, rfl, rfl, by decide +kernel, rfl, by decide +kernel, by decide +kernel⟩
def d_integer_in : He.DefD := ⟨("integer_in", none), "integer_in", "integer_in", defArgs s_integer_in, defBody s_integer_in, defScope s_integer_in, [], []⟩
theorem b_integer_in {K : PySem.W.Frag} : ∀ fd, FunD K d_integer_in.name d_integer_in.qual d_integer_in.params d_integer_in.body d_integer_in.scope (d_integer_in.dvs K) (d_integer_in.kws K) (He.fAd K d_integer_in.at_) fd → Bw K fd ["text"] 1 [] gPos :=
  fun fd F => bw_pos F 1 rfl (fun _ _ _ _ _ _ us hl => match us, hl with | [_], _ => rfl)
abbrev s_read_value : Stmt := top 21
abbrev N_read_value : List Str := ["text"]
theorem sc_read_value : FnScope N_read_value ["text"] (defScope s_read_value) :=
  ⟨rfl, rfl, rfl, by decide +kernel, rfl, by decide +kernel, by decide +kernel⟩
def d_read_value : He.DefD := ⟨("read_value", none), "read_value", "read_value", defArgs s_read_value, defBody s_read_value, defScope s_read_value, [], []⟩
theorem b_read_value {K : PySem.W.Frag} : ∀ fd, FunD K d_read_value.name d_read_value.qual d_read_value.params d_read_value.body d_read_value.scope (d_read_value.dvs K) (d_read_value.kws K) (He.fAd K d_read_value.at_) fd → Bw K fd ["text"] 1 [] gPos :=
  fun fd F => bw_pos F 1 rfl (fun _ _ _ _ _ _ us hl => match us, hl with | [_], _ => rfl)
abbrev s_law_rng : Stmt := top 23
abbrev N_law_rng : List Str := ["_law_script", "_law_k", "_law_cell"]
theorem sc_law_rng : FnScope N_law_rng ["_law_script", "_law_k"] (defScope s_law_rng) :=
  ⟨rfl, rfl, rfl, by decide +kernel, rfl, by decide +kernel, by decide +kernel⟩
def d_law_rng : He.DefD := ⟨("_law_rng", none), "_law_rng", "_law_rng", defArgs s_law_rng, defBody s_law_rng, defScope s_law_rng, [], []⟩
theorem b_law_rng {K : PySem.W.Frag} : ∀ fd, FunD K d_law_rng.name d_law_rng.qual d_law_rng.params d_law_rng.body d_law_rng.scope (d_law_rng.dvs K) (d_law_rng.kws K) (He.fAd K d_law_rng.at_) fd → Bw K fd ["_law_script", "_law_k"] 2 [] gPos :=
  fun fd F => bw_pos F 2 rfl (fun _ _ _ _ _ _ us hl => match us, hl with | [_, _], _ => rfl)
abbrev s_law_draw : Stmt := top 24
abbrev N_law_draw : List Str := ["_law_rng_here", "_law_many", "_law_digit"]
theorem sc_law_draw : FnScope N_law_draw ["_law_rng_here", "_law_many"] (defScope s_law_draw) :=
  ⟨rfl, rfl, rfl, by decide +kernel, rfl, by decide +kernel, by decide +kernel⟩
def d_law_draw : He.DefD := ⟨("_law_draw", none), "_law_draw", "_law_draw", defArgs s_law_draw, defBody s_law_draw, defScope s_law_draw, [], []⟩
theorem b_law_draw {K : PySem.W.Frag} : ∀ fd, FunD K d_law_draw.name d_law_draw.qual d_law_draw.params d_law_draw.body d_law_draw.scope (d_law_draw.dvs K) (d_law_draw.kws K) (He.fAd K d_law_draw.at_) fd → Bw K fd ["_law_rng_here", "_law_many"] 2 [] gPos :=
  fun fd F => bw_pos F 2 rfl (fun _ _ _ _ _ _ us hl => match us, hl with | [_, _], _ => rfl)
abbrev s_law_choice : Stmt := top 25
abbrev N_law_choice : List Str := ["_law_rng_here", "_law_options"]
theorem sc_law_choice : FnScope N_law_choice ["_law_rng_here", "_law_options"] (defScope s_law_choice) :=
  ⟨rfl, rfl, rfl, by decide +kernel, rfl, by decide +kernel, by decide +kernel⟩
def d_law_choice : He.DefD := ⟨("_law_choice", none), "_law_choice", "_law_choice", defArgs s_law_choice, defBody s_law_choice, defScope s_law_choice, [], []⟩
theorem b_law_choice {K : PySem.W.Frag} : ∀ fd, FunD K d_law_choice.name d_law_choice.qual d_law_choice.params d_law_choice.body d_law_choice.scope (d_law_choice.dvs K) (d_law_choice.kws K) (He.fAd K d_law_choice.at_) fd → Bw K fd ["_law_rng_here", "_law_options"] 2 [] gPos :=
  fun fd F => bw_pos F 2 rfl (fun _ _ _ _ _ _ us hl => match us, hl with | [_, _], _ => rfl)
abbrev s_law_signs : Stmt := top 26
abbrev N_law_signs : List Str := ["_law_first"]
theorem sc_law_signs : FnScope N_law_signs [] (defScope s_law_signs) :=
  ⟨rfl, rfl, rfl, by decide +kernel, rfl, by decide +kernel, by decide +kernel⟩
def d_law_signs : He.DefD := ⟨("_law_signs", none), "_law_signs", "_law_signs", defArgs s_law_signs, defBody s_law_signs, defScope s_law_signs, [], []⟩
theorem b_law_signs {K : PySem.W.Frag} : ∀ fd, FunD K d_law_signs.name d_law_signs.qual d_law_signs.params d_law_signs.body d_law_signs.scope (d_law_signs.dvs K) (d_law_signs.kws K) (He.fAd K d_law_signs.at_) fd → Bw K fd [] 0 [] gPos :=
  fun fd F => bw_pos F 0 rfl (fun _ _ _ _ _ _ us hl => match us, hl with | [], _ => rfl)
abbrev s_law_figures_drawn : Stmt := top 27
abbrev N_law_figures_drawn : List Str := ["_law_rng_here", "_law_k"]
theorem sc_law_figures_drawn : FnScope N_law_figures_drawn ["_law_rng_here"] (defScope s_law_figures_drawn) :=
  ⟨rfl, rfl, rfl, by decide +kernel, rfl, by decide +kernel, by decide +kernel⟩
def d_law_figures_drawn : He.DefD := ⟨("_law_figures_drawn", none), "_law_figures_drawn", "_law_figures_drawn", defArgs s_law_figures_drawn, defBody s_law_figures_drawn, defScope s_law_figures_drawn, [], []⟩
theorem b_law_figures_drawn {K : PySem.W.Frag} : ∀ fd, FunD K d_law_figures_drawn.name d_law_figures_drawn.qual d_law_figures_drawn.params d_law_figures_drawn.body d_law_figures_drawn.scope (d_law_figures_drawn.dvs K) (d_law_figures_drawn.kws K) (He.fAd K d_law_figures_drawn.at_) fd → Bw K fd ["_law_rng_here"] 1 [] gPos :=
  fun fd F => bw_pos F 1 rfl (fun _ _ _ _ _ _ us hl => match us, hl with | [_], _ => rfl)
abbrev s_law_number : Stmt := top 28
abbrev N_law_number : List Str := ["_law_rng_here", "_law_way"]
theorem sc_law_number : FnScope N_law_number ["_law_rng_here"] (defScope s_law_number) :=
  ⟨rfl, rfl, rfl, by decide +kernel, rfl, by decide +kernel, by decide +kernel⟩
def d_law_number : He.DefD := ⟨("_law_number", none), "_law_number", "_law_number", defArgs s_law_number, defBody s_law_number, defScope s_law_number, [], []⟩
theorem b_law_number {K : PySem.W.Frag} : ∀ fd, FunD K d_law_number.name d_law_number.qual d_law_number.params d_law_number.body d_law_number.scope (d_law_number.dvs K) (d_law_number.kws K) (He.fAd K d_law_number.at_) fd → Bw K fd ["_law_rng_here"] 1 [] gPos :=
  fun fd F => bw_pos F 1 rfl (fun _ _ _ _ _ _ us hl => match us, hl with | [_], _ => rfl)
abbrev s_law_string : Stmt := top 29
abbrev N_law_string : List Str := ["_law_rng_here", "_law_some", "_law_k"]
theorem sc_law_string : FnScope N_law_string ["_law_rng_here"] (defScope s_law_string) :=
  ⟨rfl, rfl, rfl, by decide +kernel, rfl, by decide +kernel, by decide +kernel⟩
def d_law_string : He.DefD := ⟨("_law_string", none), "_law_string", "_law_string", defArgs s_law_string, defBody s_law_string, defScope s_law_string, [], []⟩
theorem b_law_string {K : PySem.W.Frag} : ∀ fd, FunD K d_law_string.name d_law_string.qual d_law_string.params d_law_string.body d_law_string.scope (d_law_string.dvs K) (d_law_string.kws K) (He.fAd K d_law_string.at_) fd → Bw K fd ["_law_rng_here"] 1 [] gPos :=
  fun fd F => bw_pos F 1 rfl (fun _ _ _ _ _ _ us hl => match us, hl with | [_], _ => rfl)
abbrev s_law_any_value : Stmt := top 30
abbrev N_law_any_value : List Str := ["_law_rng_here", "_law_way"]
theorem sc_law_any_value : FnScope N_law_any_value ["_law_rng_here"] (defScope s_law_any_value) :=
  ⟨rfl, rfl, rfl, by decide +kernel, rfl, by decide +kernel, by decide +kernel⟩
def d_law_any_value : He.DefD := ⟨("_law_any_value", none), "_law_any_value", "_law_any_value", defArgs s_law_any_value, defBody s_law_any_value, defScope s_law_any_value, [], []⟩
theorem b_law_any_value {K : PySem.W.Frag} : ∀ fd, FunD K d_law_any_value.name d_law_any_value.qual d_law_any_value.params d_law_any_value.body d_law_any_value.scope (d_law_any_value.dvs K) (d_law_any_value.kws K) (He.fAd K d_law_any_value.at_) fd → Bw K fd ["_law_rng_here"] 1 [] gPos :=
  fun fd F => bw_pos F 1 rfl (fun _ _ _ _ _ _ us hl => match us, hl with | [_], _ => rfl)
abbrev s_law_is_value : Stmt := top 31
abbrev N_law_is_value : List Str := ["_law_thing"]
theorem sc_law_is_value : FnScope N_law_is_value ["_law_thing"] (defScope s_law_is_value) :=
  ⟨rfl, rfl, rfl, by decide +kernel, rfl, by decide +kernel, by decide +kernel⟩
def d_law_is_value : He.DefD := ⟨("_law_is_value", none), "_law_is_value", "_law_is_value", defArgs s_law_is_value, defBody s_law_is_value, defScope s_law_is_value, [], []⟩
theorem b_law_is_value {K : PySem.W.Frag} : ∀ fd, FunD K d_law_is_value.name d_law_is_value.qual d_law_is_value.params d_law_is_value.body d_law_is_value.scope (d_law_is_value.dvs K) (d_law_is_value.kws K) (He.fAd K d_law_is_value.at_) fd → Bw K fd ["_law_thing"] 1 [] gPos :=
  fun fd F => bw_pos F 1 rfl (fun _ _ _ _ _ _ us hl => match us, hl with | [_], _ => rfl)
abbrev s_law_text : Stmt := top 32
abbrev N_law_text : List Str := ["_law_value"]
theorem sc_law_text : FnScope N_law_text ["_law_value"] (defScope s_law_text) :=
  ⟨rfl, rfl, rfl, by decide +kernel, rfl, by decide +kernel, by decide +kernel⟩
def d_law_text : He.DefD := ⟨("_law_text", none), "_law_text", "_law_text", defArgs s_law_text, defBody s_law_text, defScope s_law_text, [], []⟩
theorem b_law_text {K : PySem.W.Frag} : ∀ fd, FunD K d_law_text.name d_law_text.qual d_law_text.params d_law_text.body d_law_text.scope (d_law_text.dvs K) (d_law_text.kws K) (He.fAd K d_law_text.at_) fd → Bw K fd ["_law_value"] 1 [] gPos :=
  fun fd F => bw_pos F 1 rfl (fun _ _ _ _ _ _ us hl => match us, hl with | [_], _ => rfl)
abbrev s_law_figures : Stmt := top 33
abbrev N_law_figures : List Str := ["_law_text_here", "_law_sign"]
theorem sc_law_figures : FnScope N_law_figures ["_law_text_here"] (defScope s_law_figures) :=
  ⟨rfl, rfl, rfl, by decide +kernel, rfl, by decide +kernel, by decide +kernel⟩
def d_law_figures : He.DefD := ⟨("_law_figures", none), "_law_figures", "_law_figures", defArgs s_law_figures, defBody s_law_figures, defScope s_law_figures, [], []⟩
theorem b_law_figures {K : PySem.W.Frag} : ∀ fd, FunD K d_law_figures.name d_law_figures.qual d_law_figures.params d_law_figures.body d_law_figures.scope (d_law_figures.dvs K) (d_law_figures.kws K) (He.fAd K d_law_figures.at_) fd → Bw K fd ["_law_text_here"] 1 [] gPos :=
  fun fd F => bw_pos F 1 rfl (fun _ _ _ _ _ _ us hl => match us, hl with | [_], _ => rfl)
abbrev s_law_read : Stmt := top 34
abbrev N_law_read : List Str := ["_law_text_here", "_law_inner", "_law_figures_here"]
theorem sc_law_read : FnScope N_law_read ["_law_text_here"] (defScope s_law_read) :=
  ⟨rfl, rfl, rfl, by decide +kernel, rfl, by decide +kernel, by decide +kernel⟩
def d_law_read : He.DefD := ⟨("_law_read", none), "_law_read", "_law_read", defArgs s_law_read, defBody s_law_read, defScope s_law_read, [], []⟩
theorem b_law_read {K : PySem.W.Frag} : ∀ fd, FunD K d_law_read.name d_law_read.qual d_law_read.params d_law_read.body d_law_read.scope (d_law_read.dvs K) (d_law_read.kws K) (He.fAd K d_law_read.at_) fd → Bw K fd ["_law_text_here"] 1 [] gPos :=
  fun fd F => bw_pos F 1 rfl (fun _ _ _ _ _ _ us hl => match us, hl with | [_], _ => rfl)
abbrev s_law_spoilt : Stmt := top 35
abbrev N_law_spoilt : List Str := ["_law_rng_here", "_law_text_here", "_law_turn", "_law_at", "_law_way", "_law_sign"]
theorem sc_law_spoilt : FnScope N_law_spoilt ["_law_rng_here", "_law_text_here"] (defScope s_law_spoilt) :=
  ⟨rfl, rfl, rfl, by decide +kernel, rfl, by decide +kernel, by decide +kernel⟩
def d_law_spoilt : He.DefD := ⟨("_law_spoilt", none), "_law_spoilt", "_law_spoilt", defArgs s_law_spoilt, defBody s_law_spoilt, defScope s_law_spoilt, [], []⟩
theorem b_law_spoilt {K : PySem.W.Frag} : ∀ fd, FunD K d_law_spoilt.name d_law_spoilt.qual d_law_spoilt.params d_law_spoilt.body d_law_spoilt.scope (d_law_spoilt.dvs K) (d_law_spoilt.kws K) (He.fAd K d_law_spoilt.at_) fd → Bw K fd ["_law_rng_here", "_law_text_here"] 2 [] gPos :=
  fun fd F => bw_pos F 2 rfl (fun _ _ _ _ _ _ us hl => match us, hl with | [_, _], _ => rfl)
abbrev s_law_near : Stmt := top 36
abbrev N_law_near : List Str := ["_law_rng_here", "_law_some"]
theorem sc_law_near : FnScope N_law_near ["_law_rng_here"] (defScope s_law_near) :=
  ⟨rfl, rfl, rfl, by decide +kernel, rfl, by decide +kernel, by decide +kernel⟩
def d_law_near : He.DefD := ⟨("_law_near", none), "_law_near", "_law_near", defArgs s_law_near, defBody s_law_near, defScope s_law_near, [], []⟩
theorem b_law_near {K : PySem.W.Frag} : ∀ fd, FunD K d_law_near.name d_law_near.qual d_law_near.params d_law_near.body d_law_near.scope (d_law_near.dvs K) (d_law_near.kws K) (He.fAd K d_law_near.at_) fd → Bw K fd ["_law_rng_here"] 1 [] gPos :=
  fun fd F => bw_pos F 1 rfl (fun _ _ _ _ _ _ us hl => match us, hl with | [_], _ => rfl)
abbrev s_law_told : Stmt := top 37
abbrev N_law_told : List Str := ["_law_thing", "_law_told_here", "e"]
theorem sc_law_told : FnScope N_law_told ["_law_thing"] (defScope s_law_told) :=
  ⟨rfl, rfl, rfl, by decide +kernel, rfl, by decide +kernel, by decide +kernel⟩
def d_law_told : He.DefD := ⟨("_law_told", none), "_law_told", "_law_told", defArgs s_law_told, defBody s_law_told, defScope s_law_told, [], []⟩
theorem b_law_told {K : PySem.W.Frag} : ∀ fd, FunD K d_law_told.name d_law_told.qual d_law_told.params d_law_told.body d_law_told.scope (d_law_told.dvs K) (d_law_told.kws K) (He.fAd K d_law_told.at_) fd → Bw K fd ["_law_thing"] 1 [] gPos :=
  fun fd F => bw_pos F 1 rfl (fun _ _ _ _ _ _ us hl => match us, hl with | [_], _ => rfl)
abbrev s_law_read_right : Stmt := top 38
abbrev N_law_read_right : List Str := ["_law_thing", "_law_due"]
theorem sc_law_read_right : FnScope N_law_read_right ["_law_thing"] (defScope s_law_read_right) :=
  ⟨rfl, rfl, rfl, by decide +kernel, rfl, by decide +kernel, by decide +kernel⟩
def d_law_read_right : He.DefD := ⟨("_law_read_right", none), "_law_read_right", "_law_read_right", defArgs s_law_read_right, defBody s_law_read_right, defScope s_law_read_right, [], []⟩
theorem b_law_read_right {K : PySem.W.Frag} : ∀ fd, FunD K d_law_read_right.name d_law_read_right.qual d_law_read_right.params d_law_read_right.body d_law_read_right.scope (d_law_read_right.dvs K) (d_law_read_right.kws K) (He.fAd K d_law_read_right.at_) fd → Bw K fd ["_law_thing"] 1 [] gPos :=
  fun fd F => bw_pos F 1 rfl (fun _ _ _ _ _ _ us hl => match us, hl with | [_], _ => rfl)
abbrev s_law_written : Stmt := top 39
abbrev N_law_written : List Str := ["_law_thing", "_law_told_here", "e", "_law_others"]
theorem sc_law_written : FnScope N_law_written ["_law_thing"] (defScope s_law_written) :=
  ⟨rfl, rfl, rfl, by decide +kernel, rfl, by decide +kernel, by decide +kernel⟩
def d_law_written : He.DefD := ⟨("_law_written", none), "_law_written", "_law_written", defArgs s_law_written, defBody s_law_written, defScope s_law_written, [], []⟩
theorem b_law_written {K : PySem.W.Frag} : ∀ fd, FunD K d_law_written.name d_law_written.qual d_law_written.params d_law_written.body d_law_written.scope (d_law_written.dvs K) (d_law_written.kws K) (He.fAd K d_law_written.at_) fd → Bw K fd ["_law_thing"] 1 [] gPos :=
  fun fd F => bw_pos F 1 rfl (fun _ _ _ _ _ _ us hl => match us, hl with | [_], _ => rfl)
abbrev s_law_written_right : Stmt := top 40
abbrev N_law_written_right : List Str := ["_law_thing"]
theorem sc_law_written_right : FnScope N_law_written_right ["_law_thing"] (defScope s_law_written_right) :=
  ⟨rfl, rfl, rfl, by decide +kernel, rfl, by decide +kernel, by decide +kernel⟩
def d_law_written_right : He.DefD := ⟨("_law_written_right", none), "_law_written_right", "_law_written_right", defArgs s_law_written_right, defBody s_law_written_right, defScope s_law_written_right, [], []⟩
theorem b_law_written_right {K : PySem.W.Frag} : ∀ fd, FunD K d_law_written_right.name d_law_written_right.qual d_law_written_right.params d_law_written_right.body d_law_written_right.scope (d_law_written_right.dvs K) (d_law_written_right.kws K) (He.fAd K d_law_written_right.at_) fd → Bw K fd ["_law_thing"] 1 [] gPos :=
  fun fd F => bw_pos F 1 rfl (fun _ _ _ _ _ _ us hl => match us, hl with | [_], _ => rfl)
abbrev s_law_odd : Stmt := top 41
abbrev N_law_odd : List Str := ["_law_rng_here", "_law_some"]
theorem sc_law_odd : FnScope N_law_odd ["_law_rng_here"] (defScope s_law_odd) :=
  ⟨rfl, rfl, rfl, by decide +kernel, rfl, by decide +kernel, by decide +kernel⟩
def d_law_odd : He.DefD := ⟨("_law_odd", none), "_law_odd", "_law_odd", defArgs s_law_odd, defBody s_law_odd, defScope s_law_odd, [], []⟩
theorem b_law_odd {K : PySem.W.Frag} : ∀ fd, FunD K d_law_odd.name d_law_odd.qual d_law_odd.params d_law_odd.body d_law_odd.scope (d_law_odd.dvs K) (d_law_odd.kws K) (He.fAd K d_law_odd.at_) fd → Bw K fd ["_law_rng_here"] 1 [] gPos :=
  fun fd F => bw_pos F 1 rfl (fun _ _ _ _ _ _ us hl => match us, hl with | [_], _ => rfl)
abbrev s_law_right : Stmt := top 42
abbrev N_law_right : List Str := ["_law_rng_here", "_law_turn", "_law_value", "_law_odd_here", "_law_text_here", "_law_things", "_law_thing"]
theorem sc_law_right : FnScope N_law_right ["_law_rng_here"] (defScope s_law_right) :=
  ⟨rfl, rfl, rfl, by decide +kernel, rfl, by decide +kernel, by decide +kernel⟩
def d_law_right : He.DefD := ⟨("_law_right", none), "_law_right", "_law_right", defArgs s_law_right, defBody s_law_right, defScope s_law_right, [], []⟩
theorem b_law_right {K : PySem.W.Frag} : ∀ fd, FunD K d_law_right.name d_law_right.qual d_law_right.params d_law_right.body d_law_right.scope (d_law_right.dvs K) (d_law_right.kws K) (He.fAd K d_law_right.at_) fd → Bw K fd ["_law_rng_here"] 1 [] gPos :=
  fun fd F => bw_pos F 1 rfl (fun _ _ _ _ _ _ us hl => match us, hl with | [_], _ => rfl)
abbrev s_law : Stmt := top 43
abbrev N_law : List Str := ["_law_script", "_law_k"]
theorem sc_law : FnScope N_law ["_law_script"] (defScope s_law) :=
  ⟨rfl, rfl, rfl, by decide +kernel, rfl, by decide +kernel, by decide +kernel⟩
def d_law : He.DefD := ⟨("law", none), "law", "law", defArgs s_law, defBody s_law, defScope s_law, [], []⟩
theorem b_law {K : PySem.W.Frag} : ∀ fd, FunD K d_law.name d_law.qual d_law.params d_law.body d_law.scope (d_law.dvs K) (d_law.kws K) (He.fAd K d_law.at_) fd → Bw K fd ["_law_script"] 1 [] gPos :=
  fun fd F => bw_pos F 1 rfl (fun _ _ _ _ _ _ us hl => match us, hl with | [_], _ => rfl)
abbrev s_InvalidText_init : Stmt := inClass (top 2) 0
abbrev N_InvalidText_init : List Str := ["self", "problem"]
theorem sc_InvalidText_init : IScope N_InvalidText_init ["self", "problem"] (defScope s_InvalidText_init) :=
  ⟨rfl, rfl, rfl, by decide +kernel, rfl, by decide +kernel, by decide +kernel, by decide +kernel, rfl, rfl⟩
def d_InvalidText_init : He.DefD := ⟨("InvalidText", some "__init__"), "__init__", "InvalidText.__init__", defArgs s_InvalidText_init, defBody s_InvalidText_init, defScope s_InvalidText_init, [], []⟩
def xB_InvalidText (K : PySem.W.Frag) : Bool := xclsB K (He.ga K "InvalidText") && (excB K (He.ga K "InvalidText") && xfunB K d_InvalidText_init (He.ga K "InvalidText"))
abbrev s_InvalidKey_init : Stmt := inClass (top 4) 0
abbrev N_InvalidKey_init : List Str := ["self", "value"]
theorem sc_InvalidKey_init : IScope N_InvalidKey_init ["self", "value"] (defScope s_InvalidKey_init) :=
  ⟨rfl, rfl, rfl, by decide +kernel, rfl, by decide +kernel, by decide +kernel, by decide +kernel, rfl, rfl⟩
def d_InvalidKey_init : He.DefD := ⟨("InvalidKey", some "__init__"), "__init__", "InvalidKey.__init__", defArgs s_InvalidKey_init, defBody s_InvalidKey_init, defScope s_InvalidKey_init, [], []⟩
def xB_InvalidKey (K : PySem.W.Frag) : Bool := xclsB K (He.ga K "InvalidKey") && (excB K (He.ga K "InvalidKey") && xfunB K d_InvalidKey_init (He.ga K "InvalidKey"))
def fa : List He.Fa := ([.glo "InvalidError", .glo "InvalidText", .glo "InvalidRow", .glo "InvalidKey", .str "INT" "int", .str "TEXT" "text", .str "TRUTH" "truth", .glo "SORTS", .str "FIGURES" "0123456789", .str "QUOTE" "'", .str "EMPTY_TEXT" "empty", .str "TRUE_TEXT" "true"] : List He.Fa) ++ ([.str "FALSE_TEXT" "false", .int "MOST_DIGITS" 30, .int "LONGEST_STRING" 60, .glo "is_integer", .glo "is_value", .glo "value_text", .glo "integer_in", .glo "read_value", .glo "_law_rng", .glo "_law_draw", .glo "_law_choice", .glo "_law_signs"] : List He.Fa) ++ ([.glo "_law_figures_drawn", .glo "_law_number", .glo "_law_string", .glo "_law_any_value", .glo "_law_is_value", .glo "_law_text", .glo "_law_figures", .glo "_law_read", .glo "_law_spoilt", .glo "_law_near", .glo "_law_told", .glo "_law_read_right"] : List He.Fa) ++ ([.glo "_law_written", .glo "_law_written_right", .glo "_law_odd", .glo "_law_right", .glo "law", .free "ValueError", .free "isinstance", .free "bool", .free "int", .free "str", .free "range", .free "all"] : List He.Fa) ++ ([.free "abs", .free "max", .free "divmod", .free "len", .free "repr", .free "super", .free "min", .exm "InvalidText" "InvalidText" true, .exm "InvalidKey" "InvalidKey" true, .noat "InvalidText" "problem", .noat "InvalidText" "told_parts", .meth "InvalidText" "__init__"] : List He.Fa) ++ ([.noat "InvalidKey" "value", .noat "InvalidKey" "told_parts", .meth "InvalidKey" "__init__"] : List He.Fa)
def fn : List He.DefD := ([d_is_integer, d_is_value, d_value_text, d_integer_in, d_read_value, d_law_rng, d_law_draw, d_law_choice, d_law_signs, d_law_figures_drawn, d_law_number, d_law_string] : List He.DefD) ++ ([d_law_any_value, d_law_is_value, d_law_text, d_law_figures, d_law_read, d_law_spoilt, d_law_near, d_law_told, d_law_read_right, d_law_written, d_law_written_right, d_law_odd] : List He.DefD) ++ ([d_law_right, d_law] : List He.DefD)
def xn : List He.DefD := [d_InvalidText_init, d_InvalidKey_init]
def kitO (K : PySem.W.Frag) (x y : Str) (b : Bool) : Bool := decide (PySem.W.kitOne K (.ref (He.ga K x)) (.ref (He.ga K y)) = some b)
def kitA (K : PySem.W.Frag) (x : Str) (ys : List Str) (b : Bool) : Bool := decide (PySem.W.kitAny K (.ref (He.ga K x)) (ys.map fun y => .ref (He.ga K y)) = some b)
def exB (K : PySem.W.Frag) : Bool := He.tupB K "SORTS" [.str "int", .str "text", .str "truth"] && (xB_InvalidText K && (xB_InvalidKey K && (kitO K "InvalidText" "InvalidError" true && (kitA K "InvalidText" ["InvalidKey", "InvalidRow"] false &&
  (kitO K "InvalidKey" "InvalidError" true && (kitA K "InvalidKey" ["InvalidText", "InvalidRow"] false && decide (PySem.W.kitOne K (.ref (He.ga K "InvalidKey")) (.type "ValueError") = some true)))))))
abbrev Txt (P : Program) (K : PySem.W.Frag) (mg : Str → Option Value) : Prop := TxX P fa fn xn exB K mg
theorem sortsB {P : Program} {K : PySem.W.Frag} {mg : Str → Option Value} (T : Txt P K mg) : He.tupB K "SORTS" [.str "int", .str "text", .str "truth"] = true := (He.ba T.c.more).1
theorem xb_InvalidText {P : Program} {K : PySem.W.Frag} {mg : Str → Option Value} (T : Txt P K mg) : xB_InvalidText K = true := (He.ba (He.ba T.c.more).2).1
theorem xb_InvalidKey {P : Program} {K : PySem.W.Frag} {mg : Str → Option Value} (T : Txt P K mg) : xB_InvalidKey K = true := (He.ba (He.ba (He.ba T.c.more).2).2).1
theorem x_InvalidText {P : Program} {K : PySem.W.Frag} {mg : Str → Option Value} (T : Txt P K mg) : ExcC K (He.ga K "InvalidText") ∧ XfC K (He.ga K "InvalidText") := excB_ok (He.ba (He.ba (xb_InvalidText T)).2).1
theorem m_InvalidText {P : Program} {w : World} {K : PySem.W.Frag} {mg : Str → Option Value} {base : Heap} (T : Txt P K mg) : XMk P w K mg base "InvalidText" (He.ga K "InvalidText") "InvalidText" ["problem"] := by
  have X := xclsB_ok (He.ba (xb_InvalidText T)).1
  have m0 : (He.Fa.meth "InvalidText" "__init__").ok K = true := T.fact 59
  obtain ⟨m1, m2⟩ := He.ba m0
  obtain ⟨fd, F⟩ := T.xfn 0 (d := d_InvalidText_init) (He.ba (He.ba (xb_InvalidText T)).2).2
  refine ⟨X.oex, T.glo 1, He.fAd K d_InvalidText_init.at_, fd, ["self", "problem"], He.eqO_ok m1, beq_iff_eq.mp (He.ba m2).1, ?_, ?_⟩
  · refine XFun.ok (k := 0) F sc_InvalidText_init X T.pf (T.free 53) rfl (fun _ => rfl) ⟨_, rfl, rfl⟩ (fun vs H Q E h => ?_) (fun cda cc A outer s H vs Q E h => ?_)
    · obtain ⟨a, args, rfl, hl, _⟩ := h
      rw [List.length_cons, hl]
      rfl
    · obtain ⟨a, args, rfl, hl, ha, hq⟩ := h
      obtain ⟨v0, rfl⟩ := Ab.args1 hl
      refine ⟨a, _, rfl, ha, _, (pss_one (ps_asg (pe_tup (pa_cons (pv 1) (pa_cons (pe_tup (pa_cons pe_str (pa_cons (pv 1) pa_nil))) pa_nil))) (pg_tup (n := 2) rfl (pgs_cons (Ab.pg_ost (pv 0)) (pgs_cons (Ab.pg_ost (pv 0)) pgs_nil))))), ?_⟩
      exact Ab.init1 X.oex (He.noat_ok (T.fact 57)) (He.noat_ok (T.fact 58)) ha hq
  · obtain ⟨oc, od, kV, doc, pm, an, cda, cc, ct, osl, ccl, cdd, cvs, ccs, tf, cl, cld, csl, rfl, _⟩ := F.ex
    exact Binds.all fun us hl => match us, hl with
      | [_, _], _ => rfl
theorem x_InvalidKey {P : Program} {K : PySem.W.Frag} {mg : Str → Option Value} (T : Txt P K mg) : ExcC K (He.ga K "InvalidKey") ∧ XfC K (He.ga K "InvalidKey") := excB_ok (He.ba (He.ba (xb_InvalidKey T)).2).1
theorem m_InvalidKey {P : Program} {w : World} {K : PySem.W.Frag} {mg : Str → Option Value} {base : Heap} (T : Txt P K mg) : XMk P w K mg base "InvalidKey" (He.ga K "InvalidKey") "InvalidKey" ["value"] := by
  have X := xclsB_ok (He.ba (xb_InvalidKey T)).1
  have m0 : (He.Fa.meth "InvalidKey" "__init__").ok K = true := T.fact 62
  obtain ⟨m1, m2⟩ := He.ba m0
  obtain ⟨fd, F⟩ := T.xfn 1 (d := d_InvalidKey_init) (He.ba (He.ba (xb_InvalidKey T)).2).2
  refine ⟨X.oex, T.glo 3, He.fAd K d_InvalidKey_init.at_, fd, ["self", "value"], He.eqO_ok m1, beq_iff_eq.mp (He.ba m2).1, ?_, ?_⟩
  · refine XFun.ok (k := 0) F sc_InvalidKey_init X T.pf (T.free 53) rfl (fun _ => rfl) ⟨_, rfl, rfl⟩ (fun vs H Q E h => ?_) (fun cda cc A outer s H vs Q E h => ?_)
    · obtain ⟨a, args, rfl, hl, _⟩ := h
      rw [List.length_cons, hl]
      rfl
    · obtain ⟨a, args, rfl, hl, ha, hq⟩ := h
      obtain ⟨v0, rfl⟩ := Ab.args1 hl
      refine ⟨a, _, rfl, ha, _, (pss_one (ps_asg (pe_tup (pa_cons (pv 1) (pa_cons (pe_tup (pa_cons pe_str (pa_cons (pv 1) pa_nil))) pa_nil))) (pg_tup (n := 2) rfl (pgs_cons (Ab.pg_ost (pv 0)) (pgs_cons (Ab.pg_ost (pv 0)) pgs_nil))))), ?_⟩
      exact Ab.init1 X.oex (He.noat_ok (T.fact 60)) (He.noat_ok (T.fact 61)) ha hq
  · obtain ⟨oc, od, kV, doc, pm, an, cda, cc, ct, osl, ccl, cdd, cvs, ccs, tf, cl, cld, csl, rfl, _⟩ := F.ex
    exact Binds.all fun us hl => match us, hl with
      | [_, _], _ => rfl
end K14

set_option Elab.async false
set_option linter.all false
set_option maxRecDepth 100000
set_option maxHeartbeats 4000000
/-! the plain law of k14: texts of values -/
namespace K14
open PySem L2 Ab
abbrev digs : Str := "0123456789"
theorem digs_mem {c : Nat} : c ∈ cs digs ↔ 48 ≤ c ∧ c ≤ 57 := by
  have e : cs digs = [48, 49, 50, 51, 52, 53, 54, 55, 56, 57] := by decide +kernel
  rw [e]
  simp only [List.mem_cons, List.not_mem_nil, or_false]
  omega
def figs (l : List Nat) : List Nat := if l.head? = some 45 then l.tail else l
def numOk (l : List Nat) : Bool := decide (1 ≤ (figs l).length ∧ (figs l).length ≤ 30) && (figs l).all fun c => decide (c ∈ cs digs)
def canon (l : List Nat) : Bool := !(decide ((figs l).head? = some 48) && !decide (l = [48]))
def val (l : List Nat) : Int := if l.head? = some 45 then -((NumText.digitsVal (figs l) : Nat) : Int) else ((NumText.digitsVal (figs l) : Nat) : Int)
def numV (l : List Nat) : Option Int := if (numOk l && canon l) = true then some (val l) else none
theorem ok_all {l : List Nat} (h : numOk l = true) : NumText.AllDigits (figs l) ∧ 1 ≤ (figs l).length ∧ (figs l).length ≤ 30 := by
  obtain ⟨h1, h2⟩ := He.ba h
  have h1 := of_decide_eq_true h1
  exact ⟨fun c hc => digs_mem.mp (of_decide_eq_true (List.all_eq_true.mp h2 c hc)), h1⟩
theorem val_lt : ∀ (l : List Nat) (a : Nat), NumText.AllDigits l → l.foldl (fun acc c => acc * 10 + (c - 48)) a < (a + 1) * 10 ^ l.length
  | [], a, _ => by simp
  | c :: l, a, h => by
    have h1 := val_lt l (a * 10 + (c - 48)) h.tail
    have hc := h.head
    rw [List.foldl_cons, List.length_cons, Nat.pow_succ]
    refine Nat.lt_of_lt_of_le h1 ?_
    have : (a * 10 + (c - 48) + 1) * 10 ^ l.length ≤ ((a + 1) * 10) * 10 ^ l.length := Nat.mul_le_mul_right _ (by omega)
    rw [Nat.mul_comm (10 ^ l.length) 10, ← Nat.mul_assoc]
    exact this
theorem dv_lt {l : List Nat} (h : NumText.AllDigits l) : NumText.digitsVal l < 10 ^ l.length := by
  have := val_lt l 0 h
  simpa [NumText.digitsVal] using this
theorem val_abs {l : List Nat} (h : numOk l = true) : (val l).natAbs < 10 ^ 30 := by
  obtain ⟨h1, h2, h3⟩ := ok_all h
  have h4 := dv_lt h1
  have h5 : 10 ^ (figs l).length ≤ 10 ^ 30 := Nat.pow_le_pow_right (by decide) h3
  unfold val
  split <;> omega
theorem figs_neg {l : List Nat} (h : l.head? = some 45) : l = 45 :: figs l := by
  cases l with
  | nil => cases h
  | cons c r =>
    cases h
    rfl
theorem figs_len {l : List Nat} (h : numOk l = true) : l.length ≤ 31 := by
  obtain ⟨_, h2, h3⟩ := ok_all h
  by_cases q : l.head? = some 45
  · have := congrArg List.length (figs_neg q)
    rw [List.length_cons] at this
    omega
  · have : figs l = l := if_neg q
    rw [this] at h3
    omega
theorem int_val {z : Str} (h : numOk (cs z) = true) : intText? z = some (val (cs z)) := by
  obtain ⟨h1, h2, h3⟩ := ok_all h
  have hl := figs_len h
  have lz := cs_len z
  have hne : figs (cs z) ≠ [] := fun q => by rw [q] at h2; simp at h2
  unfold val
  by_cases q : (cs z).head? = some 45
  · rw [if_pos q]
    exact PySem.intText_neg (figs_neg q) h1 hne (by omega)
  · rw [if_neg q]
    have e : figs (cs z) = cs z := if_neg q
    rw [e] at h1 hne ⊢
    exact PySem.intText_digits h1 hne (by omega)
theorem numL_zero {n : Nat} {r : List Nat} (h : TL.numL n = 48 :: r) : r = [] := by
  have hd := TL.numL_digits n
  rw [h] at hd
  cases r with
  | nil => rfl
  | cons c r =>
    exfalso
    have hv := TL.numL_val n
    rw [h, NumText.digitsVal_zero] at hv
    have h1 := dv_lt hd.tail
    rw [hv] at h1
    have h2 := TL.numL_len (by simp) h1
    rw [h] at h2
    simp at h2
    omega
theorem canon_numL {l : List Nat} (hd : NumText.AllDigits l) (h : l.length = 1 ∨ ∃ c r, l = c :: r ∧ 49 ≤ c) (h0 : l ≠ []) : TL.numL (NumText.digitsVal l) = l := by
  unfold TL.numL
  have hl : l.length = (l.length - 1) + 1 := by
    cases l with
    | nil => exact absurd rfl h0
    | cons _ _ => simp
  rw [NumText.toDigits_digitsVal (l.length - 1) l hl hd (h.imp (fun q => by omega) id), List.map_map]
  refine (List.map_congr_left fun c hc => ?_).trans (List.map_id l)
  have := hd c hc
  have : ∀ c : Nat, c < 58 → (Char.ofNat c).toNat = c := by decide
  exact this c (by omega)
theorem cs_nat (n : Nat) : cs (Str.ofString (toString (n : Int))) = TL.numL n := TL.tl_num n
theorem cs_neg {n : Nat} (h : 0 < n) : cs (Str.ofString (toString (-(n : Int)))) = 45 :: TL.numL n := by
  obtain ⟨m, rfl⟩ : ∃ m, n = m + 1 := ⟨n - 1, by omega⟩
  have e : (toString (-((m + 1 : Nat) : Int)) : String) = "-" ++ toString (m + 1) := rfl
  rw [e]
  show (Str.ofString ("-" ++ toString (m + 1))).cps.toList = _
  rw [PyProof.Rows.signs_ofString, String.toList_append, List.map_append, ← PyProof.Rows.signs_ofString (toString (m + 1))]
  have e2 := TL.tl_num (m + 1)
  have e3 : (Str.ofString (toString (m + 1))).cps.toList = TL.numL (m + 1) := e2
  rw [e3]
  rfl
theorem str_val {z : Str} (h : numOk (cs z) = true) : (Str.ofString (toString (val (cs z))) = z) ↔ canon (cs z) = true := by
  obtain ⟨h1, h2, h3⟩ := ok_all h
  have hne : figs (cs z) ≠ [] := fun q => by rw [q] at h2; simp at h2
  unfold val canon
  by_cases q : (cs z).head? = some 45
  · have ez := figs_neg q
    rw [if_pos q]
    have n48 : ¬ cs z = [48] := fun e => by rw [e] at q; cases q
    rw [decide_eq_false n48]
    generalize figs (cs z) = r at *
    cases r with
    | nil => exact absurd rfl hne
    | cons c r =>
      by_cases hc : c = 48
      · subst hc
        simp only [List.head?_cons, decide_true, Bool.not_false, Bool.and_self, Bool.not_true, Bool.false_eq_true, iff_false]
        intro e
        rw [NumText.digitsVal_zero] at e
        have e2 := congrArg cs e
        rw [ez] at e2
        rcases Nat.eq_zero_or_pos (NumText.digitsVal r) with hz | hz
        · rw [hz] at e2
          have : cs (Str.ofString (toString (-((0 : Nat) : Int)))) = [48] := by decide +kernel
          rw [this] at e2
          cases e2
        · rw [cs_neg hz] at e2
          have e3 := (List.cons.inj e2).2
          have := numL_zero e3
          subst this
          exact absurd hz (by decide)
      · have hc1 := h1.head
        have e1 : decide ((c :: r).head? = some 48) = false := decide_eq_false (by simpa using hc)
        rw [e1]
        simp only [Bool.false_and, Bool.not_false, iff_true]
        apply cs_inj
        rw [cs_neg (NumText.digitsVal_pos (by omega)), canon_numL h1 (.inr ⟨c, r, rfl, by omega⟩) hne, ez]
  · have e : figs (cs z) = cs z := if_neg q
    rw [if_neg q]
    rw [e] at h1 hne ⊢
    by_cases hh : (cs z).head? = some 48
    · by_cases h8 : cs z = [48]
      · rw [decide_eq_true h8]
        simp only [Bool.not_true, Bool.and_false, Bool.not_false, iff_true]
        apply cs_inj
        rw [cs_nat, canon_numL h1 (.inl (by rw [h8]; rfl)) hne]
      · rw [decide_eq_true hh, decide_eq_false h8]
        simp only [Bool.not_false, Bool.and_self, Bool.not_true, Bool.false_eq_true, iff_false]
        intro e
        have e2 := congrArg cs e
        rw [cs_nat] at e2
        obtain ⟨r, hr⟩ : ∃ r, cs z = 48 :: r := by
          cases hz : cs z with
          | nil => rw [hz] at hh; cases hh
          | cons c r => rw [hz] at hh; cases hh; exact ⟨r, rfl⟩
        have e3 := numL_zero (e2.trans hr)
        subst e3
        exact h8 hr
    · rw [decide_eq_false hh]
      simp only [Bool.false_and, Bool.not_false, iff_true]
      apply cs_inj
      rw [cs_nat]
      obtain ⟨c, r, hr⟩ : ∃ c r, cs z = c :: r := by
        cases hz : cs z with
        | nil => exact absurd hz hne
        | cons c r => exact ⟨c, r, rfl⟩
      refine canon_numL h1 (.inr ⟨c, r, hr, ?_⟩) hne
      rw [hr] at h1 hh
      have := h1.head
      have : c ≠ 48 := fun q => hh (by rw [q]; rfl)
      omega
/-- a value that may be written -/
def isVal : V → Bool
  | .non => true
  | .bl _ => true
  | .int i => decide ((if i < 0 then -i else i) < 10 ^ 30)
  | .str z => decide ((cs z).length ≤ 60) && !decide (39 ∈ cs z)
  | _ => false
def vtext : V → Str
  | .non => "empty"
  | .bl b => if b then "true" else "false"
  | .int i => Str.ofString (toString i)
  | .str z => Str.ofString "'" ++ z ++ Str.ofString "'"
  | _ => ""
def inner (z : Str) : Str := cutS z (some 1) (some (-1))
def quoted (l : List Nat) : Bool := decide (1 < l.length) && (decide (l.head? = some 39) && decide (l.getLast? = some 39))
def rdV (z : Str) : Option V :=
  if z = "empty" then some .non else if z = "true" then some (.bl true) else if z = "false" then some (.bl false)
  else if (quoted (cs z) && isVal (.str (inner z))) = true then some (.str (inner z)) else (numV (cs z)).map V.int
theorem quoted_num {l : List Nat} (h : quoted l = true) : numV l = none := by
  unfold quoted at h
  obtain ⟨h1, h⟩ := He.ba h
  obtain ⟨h2, _⟩ := He.ba h
  have h2 := of_decide_eq_true h2
  unfold numV
  refine if_neg fun q => ?_
  obtain ⟨q1, _⟩ := He.ba q
  obtain ⟨hd, _⟩ := ok_all q1
  have e : figs l = l := if_neg (by rw [h2]; decide)
  rw [e] at hd
  cases l with
  | nil => cases h2
  | cons c r =>
    cases h2
    have := hd.head
    omega
end K14

set_option Elab.async false
set_option linter.all false
set_option maxRecDepth 100000
set_option maxHeartbeats 4000000
namespace K14
open PySem PySem.Spec PyProof.Rows L2 Ab
local macro_rules | `(tactic| walk_at "rd") => `(tactic| simp only [start_eq, List.map_cons, List.map_nil, List.length_cons, List.length_nil, List.replicate_succ, List.replicate_zero, List.cons_append, List.nil_append, Nat.reduceSub, Nat.reduceAdd, Nat.zero_add,
  tSeq, tAsg, tIf, tTest, tOp, tVar, tCB, tCons, tNil, tC, gName, tRet, tLst, tTup, tIfS, tPar3, tDrop, tB, tAnd, tOr, tNot, tAndV, tOrV, tNotV, tUn, tNext, tNever, gTup, gSub, gCons, gNil, rSetL, tPar, rCat, rRep, rAppend, rAll, rAny, tM0, tM1, tBM, tBM0, tDisp, tPairs, rIn, tChain, tPart, tFld, tFmt, tJs, rRepS, tSl, tNoPart, rSlS, tAug, ipI, tDGet, rSetD, tOX, tMkX, rSimE, rSimN, tDGet2, tFor_eq, tLc_eq, iRng1, iRng2, iList, iTup, iStr, rI0, rI, rU, rIxL, rIxT, rIxS, tO, gPos, StX.tMakeR, tDNewK, sFld, ClX.tCVal, rSortedS, rEq, rNe, scal_ii, scal_ss, scal_bb, scal_nn, scal_is, scal_si, cx_K, cx_Kn,
  V.int.injEq, V.ref.injEq, V.str.injEq, V.bl.injEq, List.cons.injEq, Bool.not_eq_true', decide_eq_true_eq, decide_eq_false_iff_not, if_true, if_false, Bool.not_true, Bool.not_false, Bool.false_eq_true, not_true_eq_false, not_false_eq_true, and_assoc, and_true, true_and, exists_eq_left', exists_eq_left, exists_and_left, reduceCtorEq, false_and, and_false, exists_false, or_false, false_or,
  List.getElem?_cons_zero, List.getElem?_cons_succ, Option.some.injEq, List.set_cons_zero, List.set_cons_succ])
local macro_rules | `(tactic| walk_at "rk") => `(tactic| simp only [start_eq, List.map_cons, List.map_nil, List.length_cons, List.length_nil, List.replicate_succ, List.replicate_zero, List.cons_append, List.nil_append, Nat.reduceSub, Nat.reduceAdd, Nat.zero_add,
  tSeq, tAsg, tTest, tOp, tVar, tCB, tCons, tNil, tC, gName, tRet, tLst, tTup, tIfS, tPar3, tDrop, tB, tAnd, tOr, tNot, tNotV, tUn, tNext, tNever, gTup, gSub, gCons, gNil, rSetL, tPar, rCat, rRep, rAppend, rAll, rAny, tM0, tM1, tBM, tBM0, tDisp, tPairs, rIn, tChain, tPart, tFld, tFmt, tJs, rRepS, tSl, tNoPart, rSlS, tAug, ipI, tDGet, rSetD, tOX, tMkX, rSimE, rSimN, tDGet2, tFor_eq, tLc_eq, iRng1, iRng2, iList, iTup, iStr, rI0, rI, rU, rIxL, rIxT, rIxS, tO, gPos, StX.tMakeR, tDNewK, sFld, ClX.tCVal, rSortedS, rEq, rNe, scal_ii, scal_ss, scal_bb, scal_nn, scal_is, scal_si, cx_K, cx_Kn,
  V.int.injEq, V.ref.injEq, V.str.injEq, V.bl.injEq, List.cons.injEq, Bool.not_eq_true', decide_eq_true_eq, decide_eq_false_iff_not, if_true, if_false, Bool.not_true, Bool.not_false, Bool.false_eq_true, not_true_eq_false, not_false_eq_true, and_assoc, and_true, true_and, exists_eq_left', exists_eq_left, exists_and_left, reduceCtorEq, false_and, and_false, exists_false, or_false, false_or,
  List.getElem?_cons_zero, List.getElem?_cons_succ, Option.some.injEq, List.set_cons_zero, List.set_cons_succ])
section
variable {P : Program} {w : World} {K : PySem.W.Frag} {mg : Str → Option Value} {base : Heap}
theorem ok_law_rng (T : Txt P K mg) : Fo false P w K mg base CX0 1 d_law_rng ["_law_script", "_law_k"] (spRng K) := by
  obtain ⟨fd, F⟩ := T.dfn 5 (d := d_law_rng)
  refine ⟨fd, Fq.mk' F sc_law_rng (fun vs H Q E h => ?_) (fun cdv A outer s H vs Q E hg hr h => ?_), F⟩
  · obtain ⟨a, ns, k, rfl, _⟩ := h
    rfl
  obtain ⟨a, ns, k, rfl, hS, k0, k1, hQ⟩ := h
  obtain ⟨k, rfl⟩ := Int.eq_ofNat_of_zero_le k0
  refine ⟨_, (PSs.nox (pss_cons (ps_set (i := 2) sc_law_rng.nd rfl (Or.inl rfl) (pe_ifExp (pt_cmpR op_lt (pv 1) (pe_callB call_len_seq rfl (T.free 51) (by decide +kernel) (pa_cons (pv 0) pa_nil)) (nomark _)) (pe_callB call_abs rfl (T.free 48) (by decide +kernel) (pa_cons (pe_ix ix_list (pv 0) (pv 1) (fun _ _ => rfl)) pa_nil)) pe_int))
      (pss_one (ps_ret (pe_lst (pa_cons (pe_callB (call_max2 rfl) rfl (T.free 49) (by decide +kernel) (pa_cons pe_int (pa_cons (pe_op op_sub (pv 2) (pe_op op_pow pe_int pe_int)) pa_nil))) (pa_cons (pe_op op_add (pe_op op_mod (pe_callTy call_int1 rfl (T.free 44) (by decide +kernel) (pa_cons (pe_op op_pow (pe_op op_add (pe_op op_add (pe_op op_mod (pe_callTy call_int1 rfl (T.free 44) (by decide +kernel) (pa_cons (pv 2) pa_nil)) pe_int) (pe_op op_mul pe_int (pv 1))) pe_int) pe_int) pa_nil)) pe_int) pe_int) pa_nil))))))), ?_⟩
  walk_at "rd"
  refine ⟨_, Or.inl hS, ?_⟩
  have fin : ∀ (c x : Int), 0 ≤ c → ∀ p, H p = none → Q (V.ref p) (upd H p (.lst [.int x, .int (c % 2147483477 + 1)])) := fun c x hc p hp =>
    hQ p _ hp (Ex.new hp) ⟨_, _, upd_same, by omega, by omega⟩
  have hm : CMul 4127 k := Or.inl ⟨by decide, by decide⟩
  have hsz : 2 ≤ sizeLine := by decide
  have sq : ∀ z : Int, 0 ≤ z ^ Int.toNat 2 := fun z => by
    have e : Int.toNat 2 = 2 := rfl
    rw [e, Int.pow_succ, Int.pow_succ, Int.pow_zero, Int.one_mul]
    rcases Int.le_total 0 z with h | h
    · exact Int.mul_nonneg h h
    · exact Int.mul_nonneg_of_nonpos_of_nonpos h h
  refine ite2 (fun hlt => ?_) (fun _ => ?_)
  · have hl : k < ns.length := by
      have h1 : (k : Int) < ((List.map V.int ns).length : Int) := hlt
      rw [List.length_map] at h1
      omega
    refine ⟨_, hS, .int (ns[k]), ?_, _, rfl, ⟨by decide, by decide, by decide⟩, by decide, hm, ⟨by decide, by decide, ?_⟩, by decide, hsz, ?_⟩
    · refine atI_nat ?_
      simp [hl]
    · have h1 := Int.emod_nonneg (if ns[k] < 0 then -ns[k] else ns[k]) (show (2147483549 : Int) ≠ 0 by decide)
      have h2 := Int.emod_lt_of_pos (if ns[k] < 0 then -ns[k] else ns[k]) (show (0 : Int) < 2147483549 by decide)
      omega
    · exact fin _ _ (sq _)
  · refine ⟨⟨by decide, by decide, by decide⟩, by decide, hm, ⟨by decide, by decide, by omega⟩, by decide, hsz, ?_⟩
    exact fin _ _ (sq _)
theorem ok_law_draw (T : Txt P K mg) : Fo false P w K mg base CX0 1 d_law_draw ["_law_rng_here", "_law_many"] spDraw := by
  obtain ⟨fd, F⟩ := T.dfn 6 (d := d_law_draw)
  refine ⟨fd, Fq.mk' F sc_law_draw (fun vs H Q E h => ?_) (fun cdv A outer s H vs Q E hg hr h => ?_), F⟩
  · obtain ⟨r, m, rfl, _⟩ := h
    rfl
  obtain ⟨r, m, rfl, ⟨a, b, hR, b0, b1⟩, m0, m1, hQ⟩ := h
  refine ⟨_, (PSs.nox (pss_cons (ps_if (pt_cmpR op_gt (pe_ix ix_list (pv 0) pe_int (fun _ _ => rfl)) pe_int (nomark _)) (pss_cons (ps_asg (pe_callB call_divmod rfl (T.free 50) (by decide +kernel) (pa_cons (pe_ix ix_list (pv 0) pe_int (fun _ _ => rfl)) (pa_cons (pv 1) pa_nil))) (pg_tup (n := 2) rfl (pgs_cons (pg_sub (pv 0) pe_int set_list) (pgs_cons (pg_name (i := 2) sc_law_draw.nd rfl (Or.inl rfl)) pgs_nil))))
      (pss_one (ps_ret (pv 2)))) pss_nil)
      (pss_cons (ps_asg (pe_op op_mod (pe_callTy call_int1 rfl (T.free 44) (by decide +kernel) (pa_cons (pe_op op_add (pe_op op_mul (pe_ix ix_list (pv 0) pe_int (fun _ _ => rfl)) pe_int) pe_int) pa_nil)) pe_int) (pg_sub (pv 0) pe_int set_list))
      (pss_one (ps_ret (pe_op op_mod (pe_callTy call_int1 rfl (T.free 44) (by decide +kernel) (pa_cons (pe_op op_fdiv (pe_op op_mod (pe_callTy call_int1 rfl (T.free 44) (by decide +kernel) (pa_cons (pe_op op_mul (pe_ix ix_list (pv 0) pe_int (fun _ _ => rfl)) (pe_ix ix_list (pv 0) pe_int (fun _ _ => rfl))) pa_nil)) pe_int) pe_int) pa_nil)) (pv 1))))))), ?_⟩
  walk_at "rd"
  have s0 := SqL.of (K := K) hR
  have md : ∀ z : Int, 0 ≤ z % m ∧ z % m < m := fun z => ⟨Int.emod_nonneg _ (by omega), Int.emod_lt_of_pos _ m0⟩
  refine ⟨_, s0, .int a, rfl, _, rfl, ite2 (fun _ => ?_) (fun _ => ?_)⟩
  · refine ⟨_, s0, .int a, rfl, _, rfl, ⟨m0, by omega⟩, fun p hp => ⟨_, SqT.of upd_same, rfl, ?_⟩⟩
    refine ⟨_, _, rfl, _, (upd_ne (ne_of_none hR hp)).trans hR, 0, rfl, _, _, rfl, rfl, ?_⟩
    exact hQ _ _ (md a).1 (md a).2 ⟨(Fx.keep Fx.refl hp).own, a / m, b, upd_same, b0, b1⟩
  · have c0 := Int.emod_nonneg (b * 39373 + 9973) (show (2147483629 : Int) ≠ 0 by decide)
    have c1 := Int.emod_lt_of_pos (b * 39373 + 9973) (show (0 : Int) < 2147483629 by decide)
    refine ⟨_, s0, .int b, rfl, _, rfl, Or.inl ⟨by omega, by omega⟩, by decide, _, hR, 1, rfl, _, SqL.of upd_same, _, rfl, _, SqL.of upd_same, _, rfl, _, rfl, _, rfl,
      Or.inl ⟨by omega, by omega⟩, by decide, ⟨by decide, by decide⟩, m0, ?_⟩
    exact hQ _ _ (md _).1 (md _).2 ⟨Fx.refl.own, a, _, upd_same, c0, by omega⟩
theorem ok_law_choice (T : Txt P K mg) : Fo false P w K mg base CX0 2 d_law_choice ["_law_rng_here", "_law_options"] (spChoice K) := by
  obtain ⟨fd, F⟩ := T.dfn 7 (d := d_law_choice)
  refine ⟨fd, Fq.mk' F sc_law_choice (fun vs H Q E h => ?_) (fun cdv A outer s H vs Q E hg hr h => ?_), F⟩
  · obtain ⟨r, a, xs, rfl, _⟩ := h
    rfl
  obtain ⟨r, a, xs, rfl, hR, ne, hS, hx, hl, hQ⟩ := h
  refine ⟨_, (PSs.nox (pss_one (ps_ret (pe_ix ix_list (pv 1) (pe_o (ok_law_draw T) (T.glo 21) (b_law_draw) gd_false (hr.mono (by omega)) rfl pass0 (pa_cons (pv 0) (pa_cons (pe_callB call_len_seq rfl (T.free 51) (by decide +kernel) (pa_cons (pv 1) pa_nil)) pa_nil))) (fun _ _ => rfl))))), ?_⟩
  walk_at "rd"
  have hpos : 0 < xs.length := List.length_pos_iff.mpr hx
  refine ⟨_, Or.inl hS, r, _, rfl, hR, by omega, by omega, fun k H' k0 k1 hD => ?_⟩
  obtain ⟨k, rfl⟩ := Int.eq_ofNat_of_zero_le k0
  have hk : k < xs.length := by omega
  exact ⟨_, _, rfl, hD.seqL ne hS, xs[k], atI_nat (by simp [hk]), hQ _ _ (List.getElem_mem hk) hD⟩
theorem ok_law_choiceS (T : Txt P K mg) : Fo false P w K mg base CX0 2 d_law_choice ["_law_rng_here", "_law_options"] spChoiceS := by
  obtain ⟨fd, F⟩ := T.dfn 7 (d := d_law_choice)
  refine ⟨fd, Fq.mk' F sc_law_choice (fun vs H Q E h => ?_) (fun cdv A outer s H vs Q E hg hr h => ?_), F⟩
  · obtain ⟨r, z, rfl, _⟩ := h
    rfl
  obtain ⟨r, z, rfl, hR, hx, hl, hQ⟩ := h
  refine ⟨_, (PSs.nox (pss_one (ps_ret (pe_ix ix_str (pv 1) (pe_o (ok_law_draw T) (T.glo 21) (b_law_draw) gd_false (hr.mono (by omega)) rfl pass0 (pa_cons (pv 0) (pa_cons (pe_callB call_len_str rfl (T.free 51) (by decide +kernel) (pa_cons (pv 1) pa_nil)) pa_nil))) (fun _ _ => rfl))))), ?_⟩
  walk_at "rd"
  have hpos : 0 < z.cps.toList.length := List.length_pos_iff.mpr hx
  have lz : z.length = z.cps.toList.length := cs_len z
  have hs : z.length ≤ sizeLine := Nat.le_trans (show z.length ≤ 100000 by omega) (by decide)
  refine ⟨hs, r, z.length, rfl, hR, by omega, by omega, fun k H' k0 k1 hD => ?_⟩
  obtain ⟨k, rfl⟩ := Int.eq_ofNat_of_zero_le k0
  have hk : k < (cs z).length := by show k < z.cps.toList.length; omega
  exact ⟨_, rfl, hs, (cs z)[k], atI_nat (by simp [hk]), hQ _ _ (List.getElem_mem hk) hD⟩
end
end K14

set_option Elab.async false
set_option linter.all false
set_option maxRecDepth 100000
set_option maxHeartbeats 4000000
namespace K14
open PySem PySem.Spec PyProof.Rows L2 Ab
local macro_rules | `(tactic| walk_at "rd") => `(tactic| simp only [start_eq, List.map_cons, List.map_nil, List.length_cons, List.length_nil, List.replicate_succ, List.replicate_zero, List.cons_append, List.nil_append, Nat.reduceSub, Nat.reduceAdd, Nat.zero_add,
  tSeq, tAsg, tIf, tTest, tOp, tVar, tCB, tCons, tNil, tC, gName, tRet, tLst, tTup, tIfS, tPar3, tDrop, tB, tAnd, tOr, tNot, tAndV, tOrV, tNotV, tUn, tNext, tNever, gTup, gSub, gCons, gNil, rSetL, tPar, rCat, rRep, rAppend, rAll, rAny, tM0, tM1, tBM, tBM0, tDisp, tPairs, rIn, tChain, tPart, tFld, tFmt, tJs, rRepS, tSl, tNoPart, rSlS, tAug, ipI, tDGet, rSetD, tOX, tMkX, rSimE, rSimN, tDGet2, tFor_eq, tLc_eq, iRng1, iRng2, iList, iTup, iStr, rI0, rI, rU, rIxL, rIxT, rIxS, tO, gPos, StX.tMakeR, tDNewK, sFld, ClX.tCVal, rSortedS, rEq, rNe, scal_ii, scal_ss, scal_bb, scal_nn, scal_is, scal_si, cx_K, cx_Kn,
  V.int.injEq, V.ref.injEq, V.str.injEq, V.bl.injEq, List.cons.injEq, Bool.not_eq_true', decide_eq_true_eq, decide_eq_false_iff_not, if_true, if_false, Bool.not_true, Bool.not_false, Bool.false_eq_true, not_true_eq_false, not_false_eq_true, and_assoc, and_true, true_and, exists_eq_left', exists_eq_left, exists_and_left, reduceCtorEq, false_and, and_false, exists_false, or_false, false_or,
  List.getElem?_cons_zero, List.getElem?_cons_succ, Option.some.injEq, List.set_cons_zero, List.set_cons_succ])
local macro_rules | `(tactic| walk_at "rk") => `(tactic| simp only [start_eq, List.map_cons, List.map_nil, List.length_cons, List.length_nil, List.replicate_succ, List.replicate_zero, List.cons_append, List.nil_append, Nat.reduceSub, Nat.reduceAdd, Nat.zero_add,
  tSeq, tAsg, tTest, tOp, tVar, tCB, tCons, tNil, tC, gName, tRet, tLst, tTup, tIfS, tPar3, tDrop, tB, tAnd, tOr, tNot, tNotV, tUn, tNext, tNever, gTup, gSub, gCons, gNil, rSetL, tPar, rCat, rRep, rAppend, rAll, rAny, tM0, tM1, tBM, tBM0, tDisp, tPairs, rIn, tChain, tPart, tFld, tFmt, tJs, rRepS, tSl, tNoPart, rSlS, tAug, ipI, tDGet, rSetD, tOX, tMkX, rSimE, rSimN, tDGet2, tFor_eq, tLc_eq, iRng1, iRng2, iList, iTup, iStr, rI0, rI, rU, rIxL, rIxT, rIxS, tO, gPos, StX.tMakeR, tDNewK, sFld, ClX.tCVal, rSortedS, rEq, rNe, scal_ii, scal_ss, scal_bb, scal_nn, scal_is, scal_si, cx_K, cx_Kn,
  V.int.injEq, V.ref.injEq, V.str.injEq, V.bl.injEq, List.cons.injEq, Bool.not_eq_true', decide_eq_true_eq, decide_eq_false_iff_not, if_true, if_false, Bool.not_true, Bool.not_false, Bool.false_eq_true, not_true_eq_false, not_false_eq_true, and_assoc, and_true, true_and, exists_eq_left', exists_eq_left, exists_and_left, reduceCtorEq, false_and, and_false, exists_false, or_false, false_or,
  List.getElem?_cons_zero, List.getElem?_cons_succ, Option.some.injEq, List.set_cons_zero, List.set_cons_succ])
def spInt : Sp := fun vs H Q _ => ∃ z : Str, vs = [.str z] ∧ (cs z).length ≤ 5000 ∧ ∀ H', Ex H H' → Q (match numV (cs z) with | some n => .int n | none => .non) H'
def spRead (K : PySem.W.Frag) : Sp := fun vs H Q E => ∃ v : V, vs = [v] ∧ ((∃ z : Str, v = .str z ∧ (cs z).length ≤ 5000 ∧ (∀ u, rdV z = some u → ∀ H', Ex H H' → Q u H') ∧
  (rdV z = none → ∀ H', Ex H H' → Lets E (He.ga K "InvalidText") "InvalidText" ["problem"] [.str "value"] H')) ∨ (isStr v = false ∧ Ty K H v ∧ ∀ H', Ex H H' → Lets E (He.ga K "InvalidText") "InvalidText" ["problem"] [.str "string"] H'))
def spVText (K : PySem.W.Frag) : Sp := fun vs H Q E => ∃ v : V, vs = [v] ∧ (∀ H', Ex H H' → Ty K H' v) ∧ (∀ i, v = .int i → i.natAbs < 10 ^ 42) ∧ (isVal v = true → ∀ H', Ex H H' → Q (.str (vtext v)) H') ∧ (isVal v = false → ∀ H', Ex H H' → Lets E (He.ga K "InvalidKey") "InvalidKey" ["value"] [v] H')
section
variable {P : Program} {w : World} {K : PySem.W.Frag} {mg : Str → Option Value} {base : Heap}
theorem ok_is_integer (T : Txt P K mg) : Fo false P w K mg base CX0 1 d_is_integer ["value"] (spB K Ab.isInt) := by
  obtain ⟨fd, F⟩ := T.dfn 0 (d := d_is_integer)
  refine ⟨fd, Fq.mk' F sc_is_integer (fun vs H Q E h => ?_) (fun cdv A outer s H vs Q E hg hr h => ?_), F⟩
  · obtain ⟨v, rfl, _⟩ := h
    rfl
  obtain ⟨v, rfl, hT, hQ⟩ := h
  refine ⟨_, (PSs.nox (pss_one (ps_ret (pe_and (pe_callB call_isi rfl (T.free 42) (by decide +kernel) (pa_cons (pv 0) (pa_cons (pe_bltn (v := .ty "int") rfl (T.free 44) (by decide +kernel) rfl) pa_nil))) (pe_one (pe_not (pe_callB call_isi rfl (T.free 42) (by decide +kernel) (pa_cons (pv 0) (pa_cons (pe_bltn (v := .ty "bool") rfl (T.free 43) (by decide +kernel) rfl) pa_nil))))))))), ?_⟩
  walk_at "rd"
  refine is_int hT ⟨_, rfl, ?_⟩
  cases v <;> simp only [Ab.isInt, Ab.isBl, Bool.or_self, Bool.or_true, Bool.true_or, Bool.or_false, if_true, if_false, Bool.false_eq_true] <;> first | exact hQ _ (Same.refl _) | exact is_bool hT ⟨_, rfl, hQ _ (Same.refl _)⟩ | cases hT
theorem ok_is_value (T : Txt P K mg) : Fo false P w K mg base CX0 2 d_is_value ["sort", "value", "may_be_empty"] (spV K) := by
  obtain ⟨fd, F⟩ := T.dfn 1 (d := d_is_value)
  refine ⟨fd, Fq.mk' F sc_is_value (fun vs H Q E h => ?_) (fun cdv A outer s H vs Q E hg hr h => ?_), F⟩
  · obtain ⟨s, v, m, rfl, _⟩ := h
    rfl
  obtain ⟨s, v, m, rfl, hS, hT, hQ⟩ := h
  refine ⟨_, (PSs.nox (pss_cons (ps_if (PW.pt (pw_or (pt_not (pt_val (pe_callB call_isi rfl (T.free 42) (by decide +kernel) (pa_cons (pv 0) (pa_cons (pe_bltn (v := .ty "str") rfl (T.free 45) (by decide +kernel) rfl) pa_nil))))) (pw_or1 (pt_cmpR op_notIn_seq (pv 0) (pe_gr rfl (T.glo 7)) (by rfl))))) (pss_one (ps_ret pe_bl)) pss_nil)
      (pss_cons (ps_if (pt_cmpR op_isN (pv 1) pe_non (nomark _)) (pss_one (ps_ret (pv 2))) pss_nil)
      (pss_cons (ps_if (pt_cmpR op_eq (pv 0) (pe_gs rfl (T.str 4)) (nomark _)) (pss_one (ps_ret (pe_and (pe_o (ok_is_integer T) (T.glo 15) (b_is_integer) gd_false (hr.mono (by omega)) rfl pass0 (pa_cons (pv 1) pa_nil)) (pe_one (pe_cmpR op_lt (pe_callB call_abs rfl (T.free 48) (by decide +kernel) (pa_cons (pv 1) pa_nil)) (pe_op op_pow pe_int pe_int) (nomark _)))))) pss_nil)
      (pss_cons (ps_if (pt_cmpR op_eq (pv 0) (pe_gs rfl (T.str 5)) (nomark _)) (pss_one (ps_ret (pe_and (pe_callB call_isi rfl (T.free 42) (by decide +kernel) (pa_cons (pv 1) (pa_cons (pe_bltn (v := .ty "str") rfl (T.free 45) (by decide +kernel) rfl) pa_nil))) (pe_and (pe_cmpR op_le (pe_callB call_len_str rfl (T.free 51) (by decide +kernel) (pa_cons (pv 1) pa_nil)) (pe_gi rfl (T.int 14)) (nomark _)) (pe_one (pe_cmpR op_notIn_sign (pe_gs rfl (T.str 9)) (pv 1) (by rfl))))))) pss_nil)
      (pss_one (ps_ret (pe_callB call_isi rfl (T.free 42) (by decide +kernel) (pa_cons (pv 1) (pa_cons (pe_bltn (v := .ty "bool") rfl (T.free 43) (by decide +kernel) rfl) pa_nil)))))))))), ?_⟩
  walk_at "rd"
  have hB : He.tupB K "SORTS" [.str "int", .str "text", .str "truth"] = true := (sortsB T)
  have hSo : ∀ H, SqT K H (He.ga K "SORTS") [.str "int", .str "text", .str "truth"] := fun H => He.tupB_ok hB H
  refine is_str hS ⟨_, rfl, ?_⟩
  have no : isStr s = false → isV s v m = false := fun h => isV_no _ _ _ ⟨fun z => (by rw [z] at h; cases h), fun z => (by rw [z] at h; cases h), fun z => (by rw [z] at h; cases h)⟩
  cases s with
  | str z =>
    refine (if_neg (show ¬ true = false by decide)).mpr ⟨_, Or.inr (hSo H), rfl, rfl, ?_⟩
    clear no
    by_cases h1 : z = "int"
    · subst h1
      rw [isV_int] at hQ
      refine (if_neg (show ¬ inV _ _ = false by decide +kernel)).mpr (ite2 (fun h => ?_) (fun h => ⟨rfl, (if_pos rfl).mpr ⟨v, rfl, hT, fun H' e => ⟨_, rfl, ?_⟩⟩⟩))
      · subst h
        exact hQ _ (Same.refl _)
      · cases v <;> simp only [Ab.isInt, if_true, if_false, Bool.false_eq_true] <;> first | exact hQ _ e | exact ⟨_, rfl, ⟨by decide, by decide, by decide⟩, hQ _ e⟩ | exact absurd rfl h
    by_cases h2 : z = "text"
    · subst h2
      rw [isV_text] at hQ
      refine (if_neg (show ¬ inV _ _ = false by decide +kernel)).mpr (ite2 (fun h => ?_) (fun h => ⟨rfl, (if_neg (by decide +kernel)).mpr ⟨rfl, (if_pos rfl).mpr (is_str hT ⟨_, rfl, ?_⟩)⟩⟩))
      · subst h
        exact hQ _ (Same.refl _)
      · cases v with
        | str y => exact iteT (txt_part hT hQ)
        | non => exact absurd rfl h
        | _ => first | exact hQ _ (Same.refl _) | cases hT
    by_cases h3 : z = "truth"
    · subst h3
      rw [isV_truth] at hQ
      refine (if_neg (show ¬ inV _ _ = false by decide +kernel)).mpr (ite2 (fun h => ?_) (fun h => ⟨rfl, (if_neg (by decide +kernel)).mpr ⟨rfl, (if_neg (by decide +kernel)).mpr (is_bool hT ?_)⟩⟩))
      · subst h
        exact hQ _ (Same.refl _)
      · cases v with
        | non => exact absurd rfl h
        | _ => first | exact hQ _ (Same.refl _) | cases hT
    have hn : inV (.str z) [V.str "int", V.str "text", V.str "truth"] = false := by
      simp only [inV, List.any_cons, List.any_nil, eqV, Bool.or_false]
      rw [beq_false_of_ne (Ne.symm h1), beq_false_of_ne (Ne.symm h2), beq_false_of_ne (Ne.symm h3)]
      rfl
    refine (if_pos hn).mpr ?_
    rw [isV_no (.str z) v m ⟨fun e => h1 (V.str.inj e), fun e => h2 (V.str.inj e), fun e => h3 (V.str.inj e)⟩] at hQ
    exact hQ _ (Same.refl _)
  | _ => first | (rw [no rfl] at hQ; exact hQ _ (Same.refl _)) | cases hS
theorem bd_is_value : ∀ fd, FunD K d_is_value.name d_is_value.qual d_is_value.params d_is_value.body d_is_value.scope (d_is_value.dvs K) (d_is_value.kws K) (He.fAd K d_is_value.at_) fd → Bw K fd ["sort", "value", "may_be_empty"] 2 [] (fun vs _ => vs ++ [.bl false]) :=
  fun fd F => bw_d1 (y := "may_be_empty") (v := .bl false) F 2 rfl (fun D doc pm an cdv ct us z l1 => match us, l1 with
    | [_, _], _ => ⟨_, _, _, _, _, _, rfl, rfl, rfl⟩)
theorem ok_value_text (T : Txt P K mg) : Fo false P w K mg base (L2.CX P w) 3 d_value_text ["value"] (spVText K) := by
  obtain ⟨fd, F⟩ := T.dfn 2 (d := d_value_text)
  refine ⟨fd, Fq.mk' F sc_value_text (fun vs H Q E h => ?_) (fun cdv A outer s H vs Q E hg hr h => ?_), F⟩
  · obtain ⟨z, rfl, _⟩ := h
    rfl
  obtain ⟨v, rfl, hT, hi, hY, hN⟩ := h
  refine ⟨_, (pss_cons (ps_if (pt_cmpR op_isN (pv 0) pe_non (nomark _)) (pss_one (ps_ret (pe_gs rfl (T.str 10)))) pss_nil)
      (pss_cons (ps_if (pt_val (pe_o (ok_is_value T) (T.glo 16) (bd_is_value) gd_false (hr.mono (by omega)) rfl pass0 (pa_cons (pe_gs rfl (T.str 6)) (pa_cons (pv 0) pa_nil)))) (pss_one (ps_ret (pe_ifExp (pt_val (pv 0)) (pe_gs rfl (T.str 11)) (pe_gs rfl (T.str 12))))) pss_nil)
      (pss_cons (ps_if (pt_val (pe_o (ok_is_value T) (T.glo 16) (bd_is_value) gd_false (hr.mono (by omega)) rfl pass0 (pa_cons (pe_gs rfl (T.str 4)) (pa_cons (pv 0) pa_nil)))) (pss_one (ps_ret (pe_callTy call_str_int rfl (T.free 45) (by decide +kernel) (pa_cons (pv 0) pa_nil)))) pss_nil)
      (pss_cons (ps_if (pt_val (pe_o (ok_is_value T) (T.glo 16) (bd_is_value) gd_false (hr.mono (by omega)) rfl pass0 (pa_cons (pe_gs rfl (T.str 5)) (pa_cons (pv 0) pa_nil)))) (pss_one (ps_ret (pe_op op_add_str (pe_op op_add_str (pe_gs rfl (T.str 9)) (pv 0)) (pe_gs rfl (T.str 9))))) pss_nil)
      (pss_one (ps_raise rfl (takes_of rfl rfl rfl rfl) (Ab.pmk_x (m_InvalidKey T) (by decide) (hr.mono (by omega)) rfl (pa_cons (pv 0) pa_nil)))))))), ?_⟩
  walk_at "rd"
  have tt : ∀ (x : Str), (cs x).length ≤ 10 → ∀ H', Ty K H' (.str x) := fun x hx H' => Nat.le_trans hx (by decide)
  by_cases hv : v = .non
  · subst hv
    rw [if_pos rfl]
    exact hY rfl _ (Same.refl _)
  rw [if_neg hv]
  refine ⟨_, v, false, rfl, tt _ (by decide +kernel) _, hT _ (Same.refl _), fun H1 e1 => ⟨_, rfl, ?_⟩⟩
  rw [isV_truth]
  have step2 : fitB false v = false → (if false = true then ∃ c, v = V.bl c ∧ if c = true then Q (V.str (Str.ofString "true")) H1 else Q (V.str (Str.ofString "false")) H1 else spV K [V.str (Str.ofString "int"), v, V.bl false] H1 (fun x H1 => ∃ c, x = V.bl c ∧ if c = true then ∃ i, v = V.int i ∧ i.natAbs.log2 < 1920 ∧ Q (V.str (Str.ofString (toString i))) H1 else
      spV K [V.str (Str.ofString "text"), v, V.bl false] H1 (fun x H1 => ∃ c, x = V.bl c ∧ if c = true then ∃ x, v = V.str x ∧ (Str.ofString "'").length + x.length ≤ sizeLine ∧ (Str.ofString "'" ++ x).length + (Str.ofString "'").length ≤ sizeLine ∧ Q (V.str (Str.ofString "'" ++ x ++ Str.ofString "'")) H1
        else ∀ (d t : Addr) (H' : Hp), H1 d = none → H1 t = none → Ex H1 H' → H' d = some (HO.xd (xFs [Str.ofString "value"] [v] t)) → H' t = some (HO.tup [V.str (Str.ofString "InvalidKey"), v]) → E (Value.ref (He.ga K (Str.ofString "InvalidKey"))) (some d) H') E0) E0) := by
    intro hb
    rw [if_neg (by decide)]
    refine ⟨_, v, false, rfl, tt _ (by decide +kernel) _, hT _ e1, fun H2 e2 => ⟨_, rfl, ?_⟩⟩
    rw [isV_int]
    by_cases h2 : fitI false v = true
    · rw [if_pos h2]
      cases v with
      | int i => exact ⟨i, rfl, log2_small (Nat.lt_trans (hi i rfl) (by decide +kernel)), hY h2 _ (e1.trans e2)⟩
      | non => exact absurd rfl hv
      | _ => cases h2
    · rw [if_neg h2]
      refine ⟨_, v, false, rfl, tt _ (by decide +kernel) _, hT _ (e1.trans e2), fun H3 e3 => ⟨_, rfl, ?_⟩⟩
      rw [isV_text]
      by_cases h3 : fitT false v = true
      · rw [if_pos h3]
        cases v with
        | str z =>
          have hz : (cs z).length ≤ 60 := of_decide_eq_true (He.ba h3).1
          have lz := cs_len z
          have e1' : (Str.ofString "'").length = 1 := by decide +kernel
          refine ⟨z, rfl, Nat.le_trans (show _ ≤ 100 by omega) (by decide), ?_, hY h3 _ ((e1.trans e2).trans e3)⟩
          rw [strLen_append]
          exact Nat.le_trans (show _ ≤ 100 by omega) (by decide)
        | non => exact absurd rfl hv
        | _ => cases h3
      · rw [if_neg h3]
        refine hN ?_ _ ((e1.trans e2).trans e3)
        cases v with
        | non => exact absurd rfl hv
        | bl b => cases hb
        | int i => exact Bool.eq_false_iff.mpr h2
        | str z => exact Bool.eq_false_iff.mpr h3
        | _ => rfl
  cases v with
  | bl b =>
    refine (if_pos rfl).mpr ⟨b, rfl, ?_⟩
    cases b
    · exact hY rfl _ e1
    · exact hY rfl _ e1
  | non => exact absurd rfl hv
  | _ => exact step2 rfl
theorem starts_dash (z : Str) : Txt.startswith z (Str.ofString "-") = decide ((cs z).head? = some 45) := by
  have e : Str.ofString "-" = ⟨#[45]⟩ := by decide +kernel
  rw [e]
  have h := PySem.StrLaws.subAt_one z 45 0
  unfold Txt.startswith
  have e0 : (cs z).head? = z.cps.toList[0]? := by rw [List.head?_eq_getElem?]
  rw [e0, ← Bool.decide_coe (decide _ && _), decide_eq_decide, Bool.and_eq_true, decide_eq_true_eq]
  exact h
theorem cut_tail (z : Str) : cs (cutS z (some 1) none) = (cs z).tail := by
  have e : HT.sIx z.length 0 (some ((1 : Nat) : Int)) = min 1 z.length := HT.sIx_nat _ _ _
  have lz := cs_len z
  show ((cs z).drop (HT.sIx z.length 0 (some ((1 : Nat) : Int)))).take (HT.sIx z.length z.length none - HT.sIx z.length 0 (some ((1 : Nat) : Int))) = _
  rw [e, HT.sIx_none, List.take_of_length_le (by rw [List.length_drop]; omega)]
  cases hz : cs z with
  | nil => simp
  | cons c r =>
    rw [lz, hz, List.length_cons, Nat.min_eq_left (by omega)]
    rfl
theorem int_part {z fz : Str} {H : Hp} {Q : VK} {K : PySem.W.Frag} (hf : cs fz = figs (cs z)) (hQ : ∀ H', Ex H H' → Q (match numV (cs z) with | some n => .int n | none => .non) H') :
    if 1 ≤ (fz.length : Int) then if ¬(fz.length : Int) ≤ 30 then Q V.non H else
      LcF (Its fz) (gName 2) tYes (tOp (fun x y H Q => ∃ c, x = V.str { cps := #[c] } ∧ ∃ x, y = V.str x ∧ Q (V.bl (decide (c ∈ x.cps.toList))) H) (tVar 2) (tC (V.str (Str.ofString "0123456789")))) [2] [some (V.str z), some (V.str fz), none] H fun x H1 =>
        ∃ a, x = V.ref a ∧ ∃ x, SqL K H1 a (List.map V.bl x) ∧ if x.all id = false then Q V.non H1 else ∃ x, intText? z = some x ∧ z.length ≤ 640 ∧ x.natAbs.log2 < 1920 ∧ if Str.ofString (toString x) = z then ∃ x, intText? z = some x ∧ z.length ≤ 640 ∧ Q (V.int x) H1 else Q V.non H1
    else Q V.non H := by
  have lf := cs_len fz
  have none_ : numOk (cs z) = false → ∀ H', Ex H H' → Q .non H' := fun h H' e => by
    have := hQ H' e
    have e2 : numV (cs z) = none := by
      unfold numV
      rw [h]
      rfl
    rw [e2] at this
    exact this
  have bad : ¬ (1 ≤ (figs (cs z)).length ∧ (figs (cs z)).length ≤ 30) → numOk (cs z) = false := fun h => by
    unfold numOk
    rw [decide_eq_false h]
    rfl
  rw [← hf] at bad
  refine ite2 (fun h1 => ite2 (fun h2 => ?_) (fun h2 => ?_)) (fun h1 => ?_)
  · exact none_ (bad (by omega)) _ (Same.refl _)
  · refine lc_inS (by omega) (fun _ => rfl) (fun _ => rfl) fun D H' hD e hl => ⟨D, rfl, (cs fz).map fun c => decide (c ∈ cs digs), ?_, ?_⟩
    · rw [List.map_map]
      exact SqL.of hl
    · rw [List.all_map]
      have en : numOk (cs z) = (cs fz).all (id ∘ fun c => decide (c ∈ cs digs)) := by
        unfold numOk
        rw [← hf, decide_eq_true (show 1 ≤ (cs fz).length ∧ (cs fz).length ≤ 30 by omega)]
        rfl
      rw [← en]
      refine ite2 (fun h3 => none_ h3 _ e) (fun h3 => ?_)
      have h3 : numOk (cs z) = true := by simpa using h3
      have hl := figs_len h3
      have lz := cs_len z
      refine ⟨_, int_val h3, by omega, log2_small (Nat.lt_trans (val_abs h3) (by decide +kernel)), ite2 (fun h4 => ⟨_, int_val h3, by omega, ?_⟩) (fun h4 => ?_)⟩
      · have := hQ _ e
        have e2 : numV (cs z) = some (val (cs z)) := by
          unfold numV
          rw [h3, (str_val h3).mp h4]
          rfl
        rw [e2] at this
        exact this
      · have := hQ _ e
        have e2 : numV (cs z) = none := by
          unfold numV
          rw [h3, Bool.eq_false_iff.mpr fun q => h4 ((str_val h3).mpr q)]
          rfl
        rw [e2] at this
        exact this
  · exact none_ (bad (by omega)) _ (Same.refl _)
theorem ok_integer_in (T : Txt P K mg) : Fo false P w K mg base CX0 1 d_integer_in ["text"] spInt := by
  obtain ⟨fd, F⟩ := T.dfn 3 (d := d_integer_in)
  refine ⟨fd, Fq.mk' F sc_integer_in (fun vs H Q E h => ?_) (fun cdv A outer s H vs Q E hg hr h => ?_), F⟩
  · obtain ⟨z, rfl, _⟩ := h
    rfl
  obtain ⟨z, rfl, hz, hQ⟩ := h
  refine ⟨_, (PSs.nox (pss_cons (ps_set (i := 1) sc_integer_in.nd rfl (Or.inl rfl) (pe_ifExp (pt_val (pe_m1 PySem.F.slot_str_startswith PySem.F.type_str_startswith mt_startswith (pv 0) pe_str)) (pe_slice sl_str (pv 0) (po_some pe_int) po_none) (pv 0)))
      (pss_cons (ps_if (PW.pt (pw_or (pt_not (pt_chain op_le op_le pe_int (pe_callB call_len_str rfl (T.free 51) (by decide +kernel) (pa_cons (pv 1) pa_nil)) (pe_gi rfl (T.int 13)))) (pw_or1 (pt_not (pt_val (pe_callB (cr_all rfl) rfl (T.free 47) (by decide +kernel) (pa_cons (pe_lc (own := [("sign", 2)]) rfl sc_integer_in.nd (pi_str (pv 1)) (blkOk_by (own := [("sign", 2)]) (N := N_integer_in) (sc := defScope s_integer_in) (by decide +kernel)) (fun _ _ _ _ _ => (pg_name (i := 2) sc_integer_in.nd rfl (Or.inl rfl))) (fun _ _ _ _ _ => pts_nil) (fun _ _ _ _ _ => (pe_cmpR op_in_sign (pv 2) (pe_gs rfl (T.str 8)) (by rfl)))) pa_nil))))))) (pss_one (ps_ret pe_non)) pss_nil)
      (pss_one (ps_ret (pe_ifExp (pt_cmpR op_eq (pe_callTy call_str_int rfl (T.free 45) (by decide +kernel) (pa_cons (pe_callTy call_int_str rfl (T.free 44) (by decide +kernel) (pa_cons (pv 0) pa_nil)) pa_nil)) (pv 0) (nomark _)) (pe_callTy call_int_str rfl (T.free 44) (by decide +kernel) (pa_cons (pv 0) pa_nil)) pe_non)))))), ?_⟩
  walk_at "rd"
  have lz := cs_len z
  have hzl : z.length ≤ sizeLine := Nat.le_trans (show z.length ≤ 1000000 by omega) (by decide)
  refine ⟨⟨_, rfl⟩, ?_⟩
  rw [starts_dash]
  refine ite2 (fun h1 => ?_) (fun h1 => ?_)
  · have h1 := of_decide_eq_true h1
    have ef : cs (cutS z (some 1) none) = figs (cs z) := by rw [cut_tail]; exact (if_pos h1).symm
    exact ⟨hzl, Nat.le_trans (cutS_length z _ _) hzl, int_part ef hQ⟩
  · have h1 : ¬ _ := fun q => h1 (decide_eq_true q)
    exact ⟨hzl, int_part (if_neg h1).symm hQ⟩
theorem ok_read_value (T : Txt P K mg) : Fo false P w K mg base (L2.CX P w) 3 d_read_value ["text"] (spRead K) := by
  obtain ⟨fd, F⟩ := T.dfn 4 (d := d_read_value)
  refine ⟨fd, Fq.mk' F sc_read_value (fun vs H Q E h => ?_) (fun cdv A outer s H vs Q E hg hr h => ?_), F⟩
  · obtain ⟨z, rfl, _⟩ := h
    rfl
  obtain ⟨v, rfl, h⟩ := h
  refine ⟨_, (pss_cons (ps_if (pt_not (pt_val (pe_callB call_isi rfl (T.free 42) (by decide +kernel) (pa_cons (pv 0) (pa_cons (pe_bltn (v := .ty "str") rfl (T.free 45) (by decide +kernel) rfl) pa_nil))))) (pss_one (ps_raise rfl (takes_of rfl rfl rfl rfl) (Ab.pmk_x (m_InvalidText T) (by decide) (hr.mono (by omega)) rfl (pa_cons pe_str pa_nil)))) pss_nil)
      (pss_cons (ps_if (pt_cmpR op_eq (pv 0) (pe_gs rfl (T.str 10)) (nomark _)) (pss_one (ps_ret pe_non)) pss_nil)
      (pss_cons (ps_if (pt_cmpR op_in_seq (pv 0) (pe_tup (pa_cons (pe_gs rfl (T.str 11)) (pa_cons (pe_gs rfl (T.str 12)) pa_nil))) (by rfl)) (pss_one (ps_ret (pe_cmpR op_eq (pv 0) (pe_gs rfl (T.str 11)) (nomark _)))) pss_nil)
      (pss_cons (ps_if (PW.pt (pw_and (pt_cmpR op_gt (pe_callB call_len_str rfl (T.free 51) (by decide +kernel) (pa_cons (pv 0) pa_nil)) pe_int (nomark _)) (pw_and (pt_cmpR op_eq (pe_ix ix_str (pv 0) pe_int (fun _ _ => rfl)) (pe_gs rfl (T.str 9)) (nomark _)) (pw_and (pt_cmpR op_eq (pe_ix ix_str (pv 0) (pe_un un_neg pe_int) (fun _ _ => rfl)) (pe_gs rfl (T.str 9)) (nomark _)) (pw_and1 (pt_val (pe_o (ok_is_value T) (T.glo 16) (bd_is_value) gd_false (hr.mono (by omega)) rfl pass0 (pa_cons (pe_gs rfl (T.str 5)) (pa_cons (pe_slice sl_str (pv 0) (po_some pe_int) (po_some (pe_un un_neg pe_int))) pa_nil))))))))) (pss_one (ps_ret (pe_slice sl_str (pv 0) (po_some pe_int) (po_some (pe_un un_neg pe_int))))) pss_nil)
      (pss_cons (ps_if (pt_cmpR op_isN (pe_o (ok_integer_in T) (T.glo 18) (b_integer_in) gd_false (hr.mono (by omega)) rfl pass0 (pa_cons (pv 0) pa_nil)) pe_non (nomark _)) (pss_one (ps_raise rfl (takes_of rfl rfl rfl rfl) (Ab.pmk_x (m_InvalidText T) (by decide) (hr.mono (by omega)) rfl (pa_cons pe_str pa_nil)))) pss_nil)
      (pss_one (ps_ret (pe_o (ok_integer_in T) (T.glo 18) (b_integer_in) gd_false (hr.mono (by omega)) rfl pass0 (pa_cons (pv 0) pa_nil))))))))), ?_⟩
  walk_at "rd"
  rcases h with ⟨z, rfl, hz, hY, hN⟩ | ⟨hs, hT, hN⟩
  · refine is_str (show Ty K H (.str z) from Nat.le_trans hz (by decide)) ⟨_, rfl, ?_⟩
    rw [if_neg (fun q => by cases q)]
    have lz := cs_len z
    have hzl : z.length ≤ sizeLine := Nat.le_trans (show z.length ≤ 1000000 by omega) (by decide)
    have inj : ∀ {x : Str}, V.str z = V.str x ↔ z = x := ⟨V.str.inj, fun q => by rw [q]⟩
    refine ⟨rfl, ite2 (fun h1 => ?_) (fun h1 => ⟨by decide, fun p hp => ⟨_, .inr (SqT.of upd_same), rfl, rfl, ?_⟩⟩)⟩
    · rw [inj] at h1
      exact hY _ (by unfold rdV; rw [if_pos h1]) _ (Same.refl _)
    rw [inj] at h1
    have ex : Ex H (upd H p (HO.tup [V.str (Str.ofString "true"), V.str (Str.ofString "false")])) := Ex.new hp
    generalize upd H p (HO.tup [V.str (Str.ofString "true"), V.str (Str.ofString "false")]) = H1 at ex ⊢
    refine ite2 (fun h2 => ⟨rfl, ?_⟩) (fun h2 => ?_)
    · have h2 : z = "true" ∨ z = "false" := by
        have : (Str.ofString "true" == z || (Str.ofString "false" == z || false)) = true := h2
        simp only [Bool.or_eq_true, beq_iff_eq, Bool.or_false] at this
        exact this.imp Eq.symm Eq.symm
      rcases h2 with h2 | h2
      · have e : decide (V.str z = V.str (Str.ofString "true")) = true := decide_eq_true (inj.mpr h2)
        rw [e]
        exact hY _ (by unfold rdV; rw [if_neg h1, if_pos h2]) _ ex
      · have n : ¬ z = "true" := by rw [h2]; decide +kernel
        have e : decide (V.str z = V.str (Str.ofString "true")) = false := decide_eq_false fun q => n (inj.mp q)
        rw [e]
        exact hY _ (by unfold rdV; rw [if_neg h1, if_neg n, if_pos h2]) _ ex
    have h2t : ¬ z = "true" := fun q => h2 (by rw [q]; decide +kernel)
    have h2f : ¬ z = "false" := fun q => h2 (by rw [q]; decide +kernel)
    have rest : ∀ H2, Ex H H2 → rdV z = (numV (cs z)).map V.int → spInt [V.str z] H2 (fun x H1 => if x = V.non then ∀ (d t : Addr) (H' : Hp), H1 d = none → H1 t = none → Ex H1 H' → H' d = some (HO.xd (xFs [Str.ofString "problem"] [V.str (Str.ofString "value")] t)) → H' t = some (HO.tup [V.str (Str.ofString "InvalidText"), V.str (Str.ofString "value")]) → E (Value.ref (He.ga K (Str.ofString "InvalidText"))) (some d) H'
        else spInt [V.str z] H1 Q E0) E0 := by
      intro H2 e2 er
      refine ⟨z, rfl, hz, fun H3 e3 => ?_⟩
      cases hn : numV (cs z) with
      | none =>
        rw [hn] at er
        exact (if_pos rfl).mpr (hN er _ (e2.trans e3))
      | some n =>
        rw [hn] at er
        refine (if_neg nofun).mpr ⟨z, rfl, hz, fun H4 e4 => ?_⟩
        rw [hn]
        exact hY _ er _ ((e2.trans e3).trans e4)
    have er0 : quoted (cs z) = false → rdV z = (numV (cs z)).map V.int := fun hq => by
      unfold rdV
      rw [if_neg h1, if_neg h2t, if_neg h2f, hq]
      rfl
    refine ⟨z, rfl, hzl, ite2 (fun h3 => ⟨z, rfl, hzl, _, at_get (show 0 < (cs z).length by omega), ite2 (fun h4 => ⟨z, rfl, hzl, _, at_last (show 0 < (cs z).length by omega), ite2 (fun h5 => ⟨z, rfl, hzl, ?_⟩) (fun h5 => ?_)⟩) (fun h4 => ?_)⟩) (fun h3 => ?_)⟩
    · have hq : quoted (cs z) = true := by
        unfold quoted
        rw [decide_eq_true (show 1 < (cs z).length by omega), decide_eq_true (show (cs z).head? = some 39 by rw [hd_get (by omega), one_q.mp h4]), decide_eq_true (show (cs z).getLast? = some 39 by rw [lst_get (by omega), one_q.mp h5])]
        rfl
      refine ⟨_, _, false, rfl, Nat.le_trans (show (cs (Str.ofString "text")).length ≤ 10 by decide +kernel) (by decide), Nat.le_trans (Nat.le_trans (cutS_le z _ _) hz) (by decide), fun H2 e2 => ⟨_, rfl, ?_⟩⟩
      rw [isV_text]
      refine ite2 (fun h6 => ⟨z, rfl, hzl, ?_⟩) (fun h6 => ?_)
      · refine hY _ ?_ _ (ex.trans e2)
        unfold rdV
        rw [if_neg h1, if_neg h2t, if_neg h2f, hq, show isVal (.str (inner z)) = true from h6]
        rfl
      · refine rest _ (ex.trans e2) ?_
        unfold rdV
        rw [if_neg h1, if_neg h2t, if_neg h2f, hq, show isVal (.str (inner z)) = false from Bool.eq_false_iff.mpr h6]
        rfl
    · refine rest _ ex (er0 ?_)
      unfold quoted
      rw [decide_eq_false (show ¬ (cs z).getLast? = some 39 by rw [lst_get (by omega)]; exact fun q => h5 (one_q.mpr (Option.some.inj q))), Bool.and_false, Bool.and_false]
    · refine rest _ ex (er0 ?_)
      unfold quoted
      rw [decide_eq_false (show ¬ (cs z).head? = some 39 by rw [hd_get (by omega)]; exact fun q => h4 (one_q.mpr (Option.some.inj q))), Bool.false_and, Bool.and_false]
    · refine rest _ ex (er0 ?_)
      unfold quoted
      rw [decide_eq_false (show ¬ 1 < (cs z).length by omega), Bool.false_and]
  · refine is_str hT ⟨_, rfl, ?_⟩
    rw [hs, if_pos rfl]
    exact hN H (Same.refl _)
end
end K14

set_option Elab.async false
set_option linter.all false
set_option maxRecDepth 100000
set_option maxHeartbeats 4000000
namespace K14
open PySem PySem.Spec PyProof.Rows L2 Ab
local macro_rules | `(tactic| walk_at "rd") => `(tactic| simp only [start_eq, List.map_cons, List.map_nil, List.length_cons, List.length_nil, List.replicate_succ, List.replicate_zero, List.cons_append, List.nil_append, Nat.reduceSub, Nat.reduceAdd, Nat.zero_add,
  tSeq, tAsg, tIf, tTest, tOp, tVar, tCB, tCons, tNil, tC, gName, tRet, tLst, tTup, tIfS, tPar3, tDrop, tB, tAnd, tOr, tNot, tAndV, tOrV, tNotV, tUn, tNext, tNever, gTup, gSub, gCons, gNil, rSetL, tPar, rCat, rRep, rAppend, rAll, rAny, tM0, tM1, tBM, tBM0, tDisp, tPairs, rIn, tChain, tPart, tFld, tFmt, tJs, rRepS, tSl, tNoPart, rSlS, tAug, ipI, tDGet, rSetD, tOX, tMkX, rSimE, rSimN, tDGet2, tFor_eq, tLc_eq, iRng1, iRng2, iList, iTup, iStr, rI0, rI, rU, rIxL, rIxT, rIxS, tO, gPos, StX.tMakeR, tDNewK, sFld, ClX.tCVal, rSortedS, rEq, rNe, scal_ii, scal_ss, scal_bb, scal_nn, scal_is, scal_si, cx_K, cx_Kn,
  V.int.injEq, V.ref.injEq, V.str.injEq, V.bl.injEq, List.cons.injEq, Bool.not_eq_true', decide_eq_true_eq, decide_eq_false_iff_not, if_true, if_false, Bool.not_true, Bool.not_false, Bool.false_eq_true, not_true_eq_false, not_false_eq_true, and_assoc, and_true, true_and, exists_eq_left', exists_eq_left, exists_and_left, reduceCtorEq, false_and, and_false, exists_false, or_false, false_or,
  List.getElem?_cons_zero, List.getElem?_cons_succ, Option.some.injEq, List.set_cons_zero, List.set_cons_succ])
local macro_rules | `(tactic| walk_at "rk") => `(tactic| simp only [start_eq, List.map_cons, List.map_nil, List.length_cons, List.length_nil, List.replicate_succ, List.replicate_zero, List.cons_append, List.nil_append, Nat.reduceSub, Nat.reduceAdd, Nat.zero_add,
  tSeq, tAsg, tTest, tOp, tVar, tCB, tCons, tNil, tC, gName, tRet, tLst, tTup, tIfS, tPar3, tDrop, tB, tAnd, tOr, tNot, tNotV, tUn, tNext, tNever, gTup, gSub, gCons, gNil, rSetL, tPar, rCat, rRep, rAppend, rAll, rAny, tM0, tM1, tBM, tBM0, tDisp, tPairs, rIn, tChain, tPart, tFld, tFmt, tJs, rRepS, tSl, tNoPart, rSlS, tAug, ipI, tDGet, rSetD, tOX, tMkX, rSimE, rSimN, tDGet2, tFor_eq, tLc_eq, iRng1, iRng2, iList, iTup, iStr, rI0, rI, rU, rIxL, rIxT, rIxS, tO, gPos, StX.tMakeR, tDNewK, sFld, ClX.tCVal, rSortedS, rEq, rNe, scal_ii, scal_ss, scal_bb, scal_nn, scal_is, scal_si, cx_K, cx_Kn,
  V.int.injEq, V.ref.injEq, V.str.injEq, V.bl.injEq, List.cons.injEq, Bool.not_eq_true', decide_eq_true_eq, decide_eq_false_iff_not, if_true, if_false, Bool.not_true, Bool.not_false, Bool.false_eq_true, not_true_eq_false, not_false_eq_true, and_assoc, and_true, true_and, exists_eq_left', exists_eq_left, exists_and_left, reduceCtorEq, false_and, and_false, exists_false, or_false, false_or,
  List.getElem?_cons_zero, List.getElem?_cons_succ, Option.some.injEq, List.set_cons_zero, List.set_cons_succ])
abbrev shT (v : V) : Str := (fD v).shown
/-- repr shows it so, in every later heap -/
structure Rep (K : PySem.W.Frag) (H : Hp) (v : V) (d : PyData) : Prop where
  rd : ∀ H', Ex H H' → Rdt K H' v d
  sh : d.showable = true
  dp : d.depth ≤ 60
  sz : d.shown.length ≤ sizeLine
theorem int_len {i : Int} (h : i.natAbs < 10 ^ 42) : (((toString i : String) : Str)).length ≤ 5000 := by
  have e := int_text_length_le10 (k := 42) (by decide) h
  clear h
  rw [PySem.ofString_length]
  omega
theorem int_signs (i : Int) : ∀ c ∈ cs (Str.ofString (toString i)), c = 45 ∨ (48 ≤ c ∧ c ≤ 57) := by
  have nat : ∀ n : Nat, ∀ c ∈ TL.numL n, c = 45 ∨ (48 ≤ c ∧ c ≤ 57) := fun n c hc => .inr (TL.numL_digits n c hc)
  rcases (show i < 0 ∨ 0 ≤ i by omega) with h | h
  · obtain ⟨n, rfl⟩ : ∃ n : Nat, i = -(n : Int) := ⟨i.natAbs, by omega⟩
    rw [cs_neg (by omega)]
    intro c hc
    rcases List.mem_cons.mp hc with rfl | hc
    · exact .inl rfl
    · exact nat _ c hc
  · obtain ⟨n, rfl⟩ := Int.eq_ofNat_of_zero_le h
    rw [cs_nat]
    exact nat n
theorem int_lower (i : Int) : Txt.lower (Str.ofString (toString i)) = Str.ofString (toString i) := by
  have h := int_signs i
  rw [PyProof.Rows.lower_ascii fun c hc => by have := h c hc; omega]
  apply cs_inj
  show ((Str.ofString (toString i)).cps.map PyProof.Rows.lo1).toList = _
  rw [Array.toList_map]
  refine (List.map_congr_left fun c hc => ?_).trans (List.map_id _)
  have := h c hc
  have all : ∀ c : Nat, c < 58 → PyProof.Rows.lo1 c = c := by decide
  exact all c (by omega)
theorem rdV_ok {z : Str} {u : V} (hz : Gn 5000 z) (h : rdV z = some u) : flatV u = true ∧ (fD u).showable = true ∧ (fD u).depth ≤ 60 ∧ (fD u).shown.length ≤ sizeLine := by
  unfold rdV at h
  split at h
  · cases h; exact ⟨rfl, rfl, by decide, by decide +kernel⟩
  split at h
  · cases h; exact ⟨rfl, rfl, by decide, by decide +kernel⟩
  split at h
  · cases h; exact ⟨rfl, rfl, by decide, by decide +kernel⟩
  split at h
  · cases h
    refine ⟨rfl, rfl, (show 0 ≤ 60 by decide), ?_⟩
    have : Gn 5000 (inner z) := ⟨Nat.le_trans (cutS_le z _ _) hz.1, hz.cut _ _⟩
    exact Nat.le_trans (gn_repr this) (by decide)
  · unfold numV at h
    split at h
    · rename_i hn
      cases h
      have ha := val_abs (He.ba hn).1
      exact ⟨rfl, decide_eq_true (log2_small (Nat.lt_trans ha (by decide +kernel))), (show 0 ≤ 60 by decide), Nat.le_trans (int_len (Nat.lt_trans ha (by decide))) (by decide)⟩
    · cases h
def spTold (K : PySem.W.Frag) : Sp := fun vs H Q _ => ∃ v : V, vs = [v] ∧ ((∃ z : Str, v = .str z ∧ Gn 5000 z ∧ (∀ u, rdV z = some u → ∀ D H', H D = none → Ex H H' → H' D = some (.tup [.str "value", .str (shT u), .str (shT u)]) → Q (.ref D) H') ∧
  (rdV z = none → ∀ D H', H D = none → Ex H H' → H' D = some (.tup [.str "text", .str "value"]) → Q (.ref D) H')) ∨ (isStr v = false ∧ (∀ H', Ex H H' → Ty K H' v) ∧ ∀ D H', H D = none → Ex H H' → H' D = some (.tup [.str "text", .str "string"]) → Q (.ref D) H'))
def spWritten (K : PySem.W.Frag) : Sp := fun vs H Q _ => ∃ (v : V) (d : PyData), vs = [v] ∧ (∀ H', Ex H H' → Ty K H' v) ∧ (∀ i, v = .int i → i.natAbs < 10 ^ 42) ∧ Rep K H v d ∧ (isVal v = true → ∀ D H', H D = none → Ex H H' → H' D = some (.tup [.str "text", .str (vtext v), .str (vtext v)]) → Q (.ref D) H') ∧
  (isVal v = false → ∀ D H', H D = none → Ex H H' → H' D = some (.tup [.str "key", .str d.shown]) → Q (.ref D) H')
def spIV (K : PySem.W.Frag) : Sp := fun vs H Q _ => ∃ v : V, vs = [v] ∧ Ty K H v ∧ ∀ H', Ex H H' → Q (.bl (isVal v)) H'
def spVT (K : PySem.W.Frag) : Sp := fun vs H Q _ => ∃ v : V, vs = [v] ∧ isVal v = true ∧ (∀ z, v = .str z → (cs z).length ≤ 60) ∧ ∀ H', Ex H H' → Q (.str (vtext v)) H'
def figB (l : List Nat) : Bool := decide (1 ≤ l.length ∧ l.length ≤ 30) && l.all fun c => decide (c ∈ cs digs)
def spFig : Sp := fun vs H Q _ => ∃ z : Str, vs = [.str z] ∧ (cs z).length ≤ 5000 ∧ ∀ H', Ex H H' → Q (.bl (figB (cs z))) H'
def spLRead : Sp := fun vs H Q _ => ∃ z : Str, vs = [.str z] ∧ (cs z).length ≤ 5000 ∧ ∀ D H', H D = none → Ex H H' → H' D = some (.lst (rdV z).toList) → Q (.ref D) H'
section
variable {P : Program} {w : World} {K : PySem.W.Frag} {mg : Str → Option Value} {base : Heap}
theorem ok_law_told (T : Txt P K mg) : Fo true P w K mg base CX0 4 d_law_told ["_law_thing"] (spTold K) := by
  obtain ⟨fd, F⟩ := T.dfn 19 (d := d_law_told)
  refine ⟨fd, Fq.mk' F sc_law_told (fun vs H Q E h => ?_) (fun cdv A outer s H vs Q E hg hr h => ?_), F⟩
  · obtain ⟨v, rfl, _⟩ := h
    rfl
  obtain ⟨v, rfl, h⟩ := h
  refine ⟨_, (PSs.nox (pss_cons (ps_set (i := 1) sc_law_told.nd rfl (Or.inl rfl) (pe_tup (pa_cons pe_str pa_nil)))
      (pss_cons (ps_try_as (i := 2) rfl rfl sc_law_told.nd rfl rfl ⟨rfl, by decide, Or.inl (T.glo 1)⟩ Ab.takes_no
      (fun W pn xe tk po => (pss_one (ps_set (i := 1) sc_law_told.nd rfl (Or.inl rfl) (pe_tup (pa_cons pe_str (pa_cons (pe_callB (Ab.call_reprK (K := K) rfl (hg rfl) hr.units) rfl (T.free 52) (by decide +kernel) (pa_cons (pe_oX (ok_read_value T) (T.glo 19) (b_read_value) gd_false (hr.mono (by omega)) rfl tk (pa_cons (pv 0) pa_nil)) pa_nil)) (pa_cons (pe_callB (Ab.call_reprK (K := K) rfl (hg rfl) hr.units) rfl (T.free 52) (by decide +kernel) (pa_cons (pe_oX (ok_read_value T) (T.glo 19) (b_read_value) gd_false (hr.mono (by omega)) rfl tk (pa_cons (pv 0) pa_nil)) pa_nil)) pa_nil)))))))
      (fun a oe cls d pn hz hf => (pss_one (ps_if (PW.pt (pw_and (pt_val (pe_callB (Ab.call_isX hz hf) rfl (T.free 42) (by decide +kernel) (pa_cons (pv 2) (pa_cons (pe_gr rfl (T.glo 0)) pa_nil)))) (pw_and1 (pt_not (pt_val (pe_callB (Ab.call_isXT hz hf) rfl (T.free 42) (by decide +kernel) (pa_cons (pv 2) (pa_cons (pe_tup (pa_cons (pe_gr rfl (T.glo 3)) (pa_cons (pe_gr rfl (T.glo 2)) pa_nil))) pa_nil)))))))) (pss_one (ps_set (i := 1) sc_law_told.nd rfl (Or.inl rfl) (pe_tup (pa_cons pe_str (pa_cons (pe_xf (x_InvalidText T).2 (He.noat_ok (T.fact 57)) hz hf (pv 2)) pa_nil))))) pss_nil))))
      (pss_one (ps_ret (pv 1)))))), ?_⟩
  walk_at "rd"
  refine ⟨by decide, fun p hp => ?_⟩
  have e0 : Ex H (upd H p (HO.tup [V.str (Str.ofString "other")])) := Ex.new hp
  generalize upd H p (HO.tup [V.str (Str.ofString "other")]) = H0 at e0 ⊢
  generalize hW : wAs K _ _ _ _ _ = W
  obtain ⟨_, m⟩ := He.ba T.c.more
  obtain ⟨_, m⟩ := He.ba m
  obtain ⟨_, m⟩ := He.ba m
  obtain ⟨m1, m⟩ := He.ba m
  obtain ⟨m2, _⟩ := He.ba m
  have caught : ∀ (x : Str) (H2 : Hp), (∀ D H', H2 D = none → Ex H2 H' → H' D = some (.tup [.str "text", .str x]) → Q (.ref D) H') → Lets (fun cls d H' => W cls d [some v, some (V.ref p), none] H') (He.ga K "InvalidText") "InvalidText" ["problem"] [.str x] H2 := by
    intro x H2 hq d t H3 hd ht ex hx htp
    rw [← hW]
    refine ⟨true, He.exm_ok (T.fact 55), fun _ a ha => ?_, nofun⟩
    walk_at "rd"
    refine ⟨_, d, _, _, _, true, rfl, rfl, hx, (x_InvalidText T).1, rfl, .own _, of_decide_eq_true m1, true, rfl, ?_⟩
    rw [if_pos rfl]
    refine ⟨by decide, fun p' hp' => ⟨_, d, _, p', _, _, false, rfl, rfl, Ex.new hp' _ _ hx, (x_InvalidText T).1, rfl, upd_same, .cons (.own _) (.cons (.own _) .nil), of_decide_eq_true m2, false, rfl, ?_⟩⟩
    rw [if_pos rfl]
    refine ⟨_, rfl, rfl, rfl, d, _, .str x, rfl, Ex.new hp' _ _ hx, rfl, by decide, fun D hD => hq D _ ?_ ?_ upd_same⟩
    · exact Ex.none (ex.trans (Ex.new hp')) hD
    · exact Same.trans (Same.trans ex (Ex.new hp')) (Ex.new hD)
  rcases h with ⟨z, rfl, hz, hY, hN⟩ | ⟨hs, hT, hN⟩
  · refine ⟨_, rfl, .inl ⟨z, rfl, hz.1, fun u hu H1 e1 => ?_, fun hr H1 e1 => caught _ _ fun D H' hD e hd => hN hr D H' (Ex.none (e0.trans e1) hD) ((e0.trans e1).trans e) hd⟩⟩
    obtain ⟨f, sh, dp, sz⟩ := rdV_ok hz hu
    refine ⟨u, fD u, rfl, .inl (fD_dp f), sh, dp, sz, _, rfl, .inl ⟨z, rfl, hz.1, fun u2 hu2 H2 e2 => ?_, fun hr => (by rw [hu] at hr; cases hr)⟩⟩
    rw [hu] at hu2
    cases hu2
    exact ⟨u, fD u, rfl, .inl (fD_dp f), sh, dp, sz, by decide, fun D hD => hY u hu D _ (Ex.none ((e0.trans e1).trans e2) hD) (((e0.trans e1).trans e2).trans (Ex.new hD)) upd_same⟩
  · exact ⟨_, rfl, .inr ⟨hs, hT _ e0, fun H1 e1 => caught _ _ fun D H' hD e hd => hN D H' (Ex.none (e0.trans e1) hD) ((e0.trans e1).trans e) hd⟩⟩
theorem ok_law_written (T : Txt P K mg) : Fo true P w K mg base CX0 4 d_law_written ["_law_thing"] (spWritten K) := by
  obtain ⟨fd, F⟩ := T.dfn 21 (d := d_law_written)
  refine ⟨fd, Fq.mk' F sc_law_written (fun vs H Q E h => ?_) (fun cdv A outer s H vs Q E hg hr h => ?_), F⟩
  · obtain ⟨v, d, rfl, _⟩ := h
    rfl
  obtain ⟨v, d, rfl, hT, hi, hR, hY, hN⟩ := h
  refine ⟨_, (PSs.nox (pss_cons (ps_set (i := 1) sc_law_written.nd rfl (Or.inl rfl) (pe_tup (pa_cons pe_str pa_nil)))
      (pss_cons (ps_try_as (i := 2) rfl rfl sc_law_written.nd rfl rfl ⟨rfl, by decide, Or.inl (T.glo 3)⟩ Ab.takes_no
      (fun W pn xe tk po => (pss_one (ps_set (i := 1) sc_law_written.nd rfl (Or.inl rfl) (pe_tup (pa_cons pe_str (pa_cons (pe_oX (ok_value_text T) (T.glo 17) (b_value_text) gd_false (hr.mono (by omega)) rfl tk (pa_cons (pv 0) pa_nil)) (pa_cons (pe_oX (ok_value_text T) (T.glo 17) (b_value_text) gd_false (hr.mono (by omega)) rfl tk (pa_cons (pv 0) pa_nil)) pa_nil)))))))
      (fun a oe cls d pn hz hf => (pss_cons (ps_set (i := 3) sc_law_written.nd rfl (Or.inl rfl) (pe_or (pe_callB (Ab.call_isXT hz hf) rfl (T.free 42) (by decide +kernel) (pa_cons (pv 2) (pa_cons (pe_tup (pa_cons (pe_gr rfl (T.glo 1)) (pa_cons (pe_gr rfl (T.glo 2)) pa_nil))) pa_nil))) (pe_one (pe_not (pe_callB (Ab.call_isX hz hf) rfl (T.free 42) (by decide +kernel) (pa_cons (pv 2) (pa_cons (pe_bltn (v := .ty "ValueError") rfl (T.free 41) (by decide +kernel) rfl) pa_nil)))))))
      (pss_one (ps_set (i := 1) sc_law_written.nd rfl (Or.inl rfl) (pe_ifExp (PW.pt (pw_and (pt_val (pe_callB (Ab.call_isX hz hf) rfl (T.free 42) (by decide +kernel) (pa_cons (pv 2) (pa_cons (pe_gr rfl (T.glo 0)) pa_nil)))) (pw_and1 (pt_not (pt_val (pv 3)))))) (pe_tup (pa_cons pe_str (pa_cons (pe_callB (Ab.call_reprK (K := K) rfl (hg rfl) hr.units) rfl (T.free 52) (by decide +kernel) (pa_cons (pe_xf (x_InvalidKey T).2 (He.noat_ok (T.fact 60)) hz hf (pv 2)) pa_nil)) pa_nil))) (pe_tup (pa_cons pe_str pa_nil))))))))
      (pss_one (ps_ret (pv 1)))))), ?_⟩
  walk_at "rd"
  refine ⟨by decide, fun p hp => ?_⟩
  have e0 : Ex H (upd H p (HO.tup [V.str (Str.ofString "other")])) := Ex.new hp
  generalize upd H p (HO.tup [V.str (Str.ofString "other")]) = H0 at e0 ⊢
  generalize hW : wAs K _ _ _ _ _ = W
  obtain ⟨_, m⟩ := He.ba T.c.more
  obtain ⟨_, m⟩ := He.ba m
  obtain ⟨_, m⟩ := He.ba m
  obtain ⟨_, m⟩ := He.ba m
  obtain ⟨_, m⟩ := He.ba m
  obtain ⟨m1, m⟩ := He.ba m
  obtain ⟨m2, m3⟩ := He.ba m
  have caught : ∀ (H2 : Hp), isVal v = false → Ex H H2 → Lets (fun cls d H' => W cls d [some v, some (V.ref p), none, none] H') (He.ga K "InvalidKey") "InvalidKey" ["value"] [v] H2 := by
    intro H2 hv ex2 dx t H3 hd ht ex hx htp
    rw [← hW]
    refine ⟨true, He.exm_ok (T.fact 56), fun _ a ha => ?_, nofun⟩
    walk_at "rd"
    refine ⟨by decide, fun p' hp' => ⟨_, dx, _, p', _, _, false, rfl, rfl, Ex.new hp' _ _ hx, (x_InvalidKey T).1, rfl, upd_same, .cons (.own _) (.cons (.own _) .nil), of_decide_eq_true m2, false, rfl, ?_⟩⟩
    have ex4 : Ex H3 (upd H3 p' (HO.tup [V.ref (He.ga K (Str.ofString "InvalidText")), V.ref (He.ga K (Str.ofString "InvalidRow"))])) := Ex.new hp'
    generalize upd H3 p' (HO.tup [V.ref (He.ga K (Str.ofString "InvalidText")), V.ref (He.ga K (Str.ofString "InvalidRow"))]) = H4 at ex4 ⊢
    rw [if_neg (by decide)]
    refine ⟨_, dx, _, _, _, true, rfl, rfl, ex4 _ _ hx, (x_InvalidKey T).1, rfl, .ty _, of_decide_eq_true m3, true, rfl, ?_⟩
    refine ⟨_, dx, _, _, _, true, rfl, rfl, ex4 _ _ hx, (x_InvalidKey T).1, rfl, .own _, of_decide_eq_true m1, true, rfl, ?_⟩
    rw [if_pos rfl]
    have ex24 := (ex2.trans ex).trans ex4
    refine ⟨_, rfl, rfl, rfl, dx, _, v, rfl, ex4 _ _ hx, rfl, v, d, rfl, hR.rd _ ex24, hR.sh, hR.dp, hR.sz, by decide, fun D hD => hN hv D _ (Ex.none ex24 hD) (Same.trans ex24 (Ex.new hD)) upd_same⟩
  refine ⟨v, rfl, fun H' e => hT _ (e0.trans e), hi, fun hv H1 e1 => ?_, fun hv H1 e1 => caught _ hv (e0.trans e1)⟩
  refine ⟨v, rfl, fun H' e => hT _ ((e0.trans e1).trans e), hi, fun _ H2 e2 => ⟨by decide, fun D hD => hY hv D _ (Ex.none ((e0.trans e1).trans e2) hD) (((e0.trans e1).trans e2).trans (Ex.new hD)) upd_same⟩, fun hv2 => (by rw [hv] at hv2; cases hv2)⟩
theorem ok_law_is_value (T : Txt P K mg) : Fo false P w K mg base CX0 1 d_law_is_value ["_law_thing"] (spIV K) := by
  obtain ⟨fd, F⟩ := T.dfn 13 (d := d_law_is_value)
  refine ⟨fd, Fq.mk' F sc_law_is_value (fun vs H Q E h => ?_) (fun cdv A outer s H vs Q E hg hr h => ?_), F⟩
  · obtain ⟨v, rfl, _⟩ := h
    rfl
  obtain ⟨v, rfl, hT, hQ⟩ := h
  refine ⟨_, (PSs.nox (pss_cons (ps_if (PW.pt (pw_or (pt_cmpR op_isN (pv 0) pe_non (nomark _)) (pw_or1 (pt_val (pe_callB call_isi rfl (T.free 42) (by decide +kernel) (pa_cons (pv 0) (pa_cons (pe_bltn (v := .ty "bool") rfl (T.free 43) (by decide +kernel) rfl) pa_nil))))))) (pss_one (ps_ret pe_bl)) pss_nil)
      (pss_cons (ps_if (pt_val (pe_callB call_isi rfl (T.free 42) (by decide +kernel) (pa_cons (pv 0) (pa_cons (pe_bltn (v := .ty "int") rfl (T.free 44) (by decide +kernel) rfl) pa_nil)))) (pss_one (ps_ret (pe_cmpR op_lt (pe_callB call_abs rfl (T.free 48) (by decide +kernel) (pa_cons (pv 0) pa_nil)) (pe_op op_pow pe_int pe_int) (nomark _)))) pss_nil)
      (pss_one (ps_ret (pe_and (pe_callB call_isi rfl (T.free 42) (by decide +kernel) (pa_cons (pv 0) (pa_cons (pe_bltn (v := .ty "str") rfl (T.free 45) (by decide +kernel) rfl) pa_nil))) (pe_and (pe_cmpR op_lt (pe_callB call_len_str rfl (T.free 51) (by decide +kernel) (pa_cons (pv 0) pa_nil)) pe_int (nomark _)) (pe_one (pe_cmpR op_notIn_sign pe_str (pv 0) (by rfl)))))))))), ?_⟩
  walk_at "rd"
  by_cases hv : v = .non
  · subst hv
    rw [if_pos rfl]
    exact hQ _ (Same.refl _)
  rw [if_neg hv]
  refine is_bool hT ⟨_, rfl, ?_⟩
  cases v with
  | non => exact absurd rfl hv
  | bl b => exact (if_pos rfl).mpr (hQ _ (Same.refl _))
  | int i =>
    refine (if_neg (fun q => by cases q)).mpr (is_int hT ⟨_, rfl, (if_pos rfl).mpr ⟨i, rfl, ⟨by decide, by decide, by decide⟩, ?_⟩⟩)
    exact hQ _ (Same.refl _)
  | str z =>
    refine (if_neg (fun q => by cases q)).mpr (is_int hT ⟨_, rfl, (if_neg (fun q => by cases q)).mpr (is_str hT ⟨_, rfl, (if_pos rfl).mpr ?_⟩)⟩)
    have hz : (cs z).length ≤ 1000000 := hT
    have lz := cs_len z
    refine ⟨z, rfl, Nat.le_trans (show z.length ≤ 1000000 by omega) (by decide), ite2 (fun h => ⟨39, qu1, z, rfl, ?_⟩) (fun h => ?_)⟩
    · have e : isVal (.str z) = !decide (39 ∈ z.cps.toList) := by
        show (decide ((cs z).length ≤ 60) && !decide (39 ∈ cs z)) = _
        rw [decide_eq_true (by omega), Bool.true_and]
      rw [← e]
      exact hQ _ (Same.refl _)
    · have e : isVal (.str z) = false := by
        show (decide ((cs z).length ≤ 60) && !decide (39 ∈ cs z)) = _
        rw [decide_eq_false (by omega), Bool.false_and]
      rw [← e]
      exact hQ _ (Same.refl _)
  | ref a =>
    refine (if_neg (fun q => by cases q)).mpr (is_int hT ⟨_, rfl, (if_neg (fun q => by cases q)).mpr (is_str hT ⟨_, rfl, (if_neg (fun q => by cases q)).mpr ?_⟩)⟩)
    exact hQ _ (Same.refl _)
  | byt _ => exact hT.elim
  | flt _ => exact hT.elim
  | ty _ => exact hT.elim
theorem ok_law_text (T : Txt P K mg) : Fo false P w K mg base CX0 1 d_law_text ["_law_value"] (spVT K) := by
  obtain ⟨fd, F⟩ := T.dfn 14 (d := d_law_text)
  refine ⟨fd, Fq.mk' F sc_law_text (fun vs H Q E h => ?_) (fun cdv A outer s H vs Q E hg hr h => ?_), F⟩
  · obtain ⟨v, rfl, _⟩ := h
    rfl
  obtain ⟨v, rfl, hv, hz, hQ⟩ := h
  refine ⟨_, (PSs.nox (pss_cons (ps_if (pt_val (pe_callB call_isi rfl (T.free 42) (by decide +kernel) (pa_cons (pv 0) (pa_cons (pe_bltn (v := .ty "str") rfl (T.free 45) (by decide +kernel) rfl) pa_nil)))) (pss_one (ps_ret (pe_op op_add_str (pe_op op_add_str pe_str (pv 0)) pe_str))) pss_nil)
      (pss_cons (ps_if (pt_cmpR op_isN (pv 0) pe_non (nomark _)) (pss_one (ps_ret pe_str)) pss_nil)
      (pss_one (ps_ret (pe_lower (pe_callTy call_strIB rfl (T.free 45) (by decide +kernel) (pa_cons (pv 0) pa_nil)))))))), ?_⟩
  walk_at "rd"
  cases v with
  | str z =>
    have hz := hz z rfl
    have lz := cs_len z
    have e1 : (Str.ofString "'").length = 1 := by decide +kernel
    refine is_str (show Ty K H (.str z) from Nat.le_trans hz (by decide)) ⟨_, rfl, (if_pos rfl).mpr ⟨z, rfl, Nat.le_trans (show _ ≤ 100 by omega) (by decide), ?_, hQ _ (Same.refl _)⟩⟩
    rw [strLen_append]
    exact Nat.le_trans (show _ ≤ 100 by omega) (by decide)
  | non => exact is_str (show Ty K H .non from trivial) ⟨_, rfl, (if_neg (fun q => by cases q)).mpr ((if_pos rfl).mpr (hQ _ (Same.refl _)))⟩
  | bl b =>
    refine is_str (show Ty K H (.bl b) from trivial) ⟨_, rfl, (if_neg (fun q => by cases q)).mpr ((if_neg nofun).mpr ⟨.inr ⟨b, rfl⟩, ⟨_, rfl⟩, ?_, ?_⟩)⟩
    · cases b <;> decide +kernel
    · have e : Txt.lower (fD (.bl b)).shown = vtext (.bl b) := by cases b <;> decide +kernel
      rw [e]
      exact hQ _ (Same.refl _)
  | int i =>
    have hi : i.natAbs < 10 ^ 30 := by
      have := of_decide_eq_true hv
      split at this <;> omega
    refine is_str (show Ty K H (.int i) from trivial) ⟨_, rfl, (if_neg (fun q => by cases q)).mpr ((if_neg nofun).mpr ⟨.inl ⟨i, rfl, log2_small (Nat.lt_trans hi (by decide +kernel))⟩, ⟨_, rfl⟩, ?_, ?_⟩)⟩
    · exact Nat.le_trans (int_len (Nat.lt_trans hi (by decide))) (by decide)
    · have e : Txt.lower (fD (.int i)).shown = vtext (.int i) := int_lower i
      rw [e]
      exact hQ _ (Same.refl _)
  | _ => cases hv
theorem ok_law_figures (T : Txt P K mg) : Fo false P w K mg base CX0 1 d_law_figures ["_law_text_here"] spFig := by
  obtain ⟨fd, F⟩ := T.dfn 15 (d := d_law_figures)
  refine ⟨fd, Fq.mk' F sc_law_figures (fun vs H Q E h => ?_) (fun cdv A outer s H vs Q E hg hr h => ?_), F⟩
  · obtain ⟨z, rfl, _⟩ := h
    rfl
  obtain ⟨z, rfl, hz, hQ⟩ := h
  refine ⟨_, (PSs.nox (pss_one (ps_ret (pe_and (pe_chain op_lt op_lt pe_int (pe_callB call_len_str rfl (T.free 51) (by decide +kernel) (pa_cons (pv 0) pa_nil)) pe_int) (pe_one (pe_cmpR (op_eqL hr.units) (pe_lc (own := [("_law_sign", 1)]) rfl sc_law_figures.nd (pi_str (pv 0)) (blkOk_by (own := [("_law_sign", 1)]) (N := N_law_figures) (sc := defScope s_law_figures) (by decide +kernel)) (fun _ _ _ _ _ => (pg_name (i := 1) sc_law_figures.nd rfl (Or.inl rfl))) (fun _ _ _ _ _ => (pts_one (pt_cmpR op_notIn_sign (pv 1) pe_str (by rfl)))) (fun _ _ _ _ _ => (pv 1))) (pe_lst pa_nil) (nomark _))))))), ?_⟩
  walk_at "rd"
  have lz := cs_len z
  refine ⟨Nat.le_trans (show z.length ≤ 1000000 by omega) (by decide), ite2 (fun h1 => ite2 (fun h2 => ?_) (fun h2 => ?_)) (fun h1 => ?_)⟩
  · have lzs : z.cps.size = (cs z).length := by simp
    have gt : ∀ i, i < z.cps.size → (cs z)[i]? = some ((cs z).getD i 0) := fun i hi => by rw [List.getD_eq_getElem?_getD, List.getElem?_eq_getElem (by omega)]; rfl
    refine lc_filt walk_str (fun _ _ => trivial) (by rw [lzs]; omega) (fun i => !decide ((cs z).getD i 0 ∈ cs digs)) (fun i => .str ⟨#[(cs z).getD i 0]⟩) ?_ ?_
    · rintro i x H1 H2 hi e ⟨rfl, c, hc, rfl⟩ R k
      have ec : (cs z).getD i 0 = c := by
        have h1 : (cs z)[i]? = some c := by simpa using hc
        rw [List.getD_eq_getElem?_getD, h1]
        rfl
      walk_at "rd"
      rw [ec] at k
      exact ⟨rfl, _, rfl, _, rfl, k _ _ (Same.refl _) fun H5 e5 Qn hq => ⟨_, rfl, hq _ (Same.refl _)⟩⟩
    · intro D H1 hD e hl
      refine ⟨by decide, fun p hp => ?_⟩
      by_cases ha : ((cs z).all fun c => decide (c ∈ cs digs)) = true
      · have e1 : figB (cs z) = true := by
          unfold figB
          rw [ha, decide_eq_true (show 1 ≤ (cs z).length ∧ (cs z).length ≤ 30 by omega)]
          rfl
        refine .inr ⟨1, by decide, .flatL (xs := []) (SqL.of ?_) (SqL.of upd_same) fun x hx => (nomatch hx), ?_⟩
        · rw [upd_ne (ne_of_none hl hp), hl]
          congr 2
          rw [List.map_eq_nil_iff, List.filter_eq_nil_iff]
          intro i hi
          rw [List.mem_range] at hi
          have := List.all_eq_true.mp ha _ (List.mem_of_getElem? (gt i hi))
          simpa using this
        · rw [← e1]
          exact hQ _ (e.trans (Ex.new hp))
      · have e1 : figB (cs z) = false := by
          unfold figB
          rw [Bool.eq_false_iff.mpr ha, Bool.and_false]
        refine .inl ⟨_, _, _, [], rfl, rfl, SqL.of ((upd_ne (ne_of_none hl hp)).trans hl), SqL.of upd_same, ?_, ?_⟩
        · intro hn
          have hn' := List.eq_nil_of_length_eq_zero hn
          rw [List.map_eq_nil_iff, List.filter_eq_nil_iff] at hn'
          refine ha (List.all_eq_true.mpr fun c hc => ?_)
          obtain ⟨i, hi, rfl⟩ := List.mem_iff_getElem.mp hc
          have h1 := hn' i (by rw [List.mem_range]; omega)
          rw [List.getD_eq_getElem?_getD, List.getElem?_eq_getElem hi] at h1
          simpa using h1
        · rw [← e1]
          exact hQ _ (e.trans (Ex.new hp))
  · have e1 : figB (cs z) = false := by
      unfold figB
      rw [decide_eq_false (show ¬ (1 ≤ (cs z).length ∧ (cs z).length ≤ 30) by omega), Bool.false_and]
    rw [← e1]
    exact hQ _ (Same.refl _)
  · have e1 : figB (cs z) = false := by
      unfold figB
      rw [decide_eq_false (show ¬ (1 ≤ (cs z).length ∧ (cs z).length ≤ 30) by omega), Bool.false_and]
    rw [← e1]
    exact hQ _ (Same.refl _)
theorem num_tail {z fz : Str} {H0 : Hp} {Q : VK} (hz : (cs z).length ≤ 5000) (hl : (cs fz).length ≤ 5000) (hf : cs fz = figs (cs z)) (er : rdV z = (numV (cs z)).map V.int) (hQ : ∀ D H', H0 D = none → Ex H0 H' → H' D = some (.lst (rdV z).toList) → Q (.ref D) H') :
    spFig [V.str fz] H0 (fun x H1 => ∃ c, x = V.bl c ∧ if c = false then 0 ≤ sizeLine ∧ ∀ (p : Addr), H1 p = none → Q (V.ref p) (upd H1 p (HO.lst [])) else
      fz.length ≤ sizeLine ∧ ∃ x, atI fz.cps.toList 0 = some x ∧ if { cps := #[x] } = Str.ofString "0" then if ¬z = Str.ofString "0" then 0 ≤ sizeLine ∧ ∀ (p : Addr), H1 p = none → Q (V.ref p) (upd H1 p (HO.lst [])) else ∃ x, intText? z = some x ∧ z.length ≤ 640 ∧ 1 ≤ sizeLine ∧ ∀ (p : Addr), H1 p = none → Q (V.ref p) (upd H1 p (HO.lst [V.int x]))
        else ∃ x, intText? z = some x ∧ z.length ≤ 640 ∧ 1 ≤ sizeLine ∧ ∀ (p : Addr), H1 p = none → Q (V.ref p) (upd H1 p (HO.lst [V.int x]))) E0 := by
  have lf := cs_len fz
  have lz := cs_len z
  have ef : figB (cs fz) = numOk (cs z) := by rw [hf]; rfl
  have nil_ : ∀ H1, Ex H0 H1 → numV (cs z) = none → 0 ≤ sizeLine ∧ ∀ (p : Addr), H1 p = none → Q (V.ref p) (upd H1 p (HO.lst [])) := fun H1 e1 hn => ⟨by decide, fun p hp => hQ p _ (Ex.none e1 hp) (e1.trans (Ex.new hp)) (by rw [upd_same, er, hn]; rfl)⟩
  refine ⟨fz, rfl, hl, fun H1 e1 => ⟨_, rfl, ?_⟩⟩
  rw [ef]
  refine ite2 (fun h => ?_) (fun h => ?_)
  · refine nil_ _ e1 ?_
    unfold numV
    rw [h]
    rfl
  have h : numOk (cs z) = true := by simpa using h
  obtain ⟨_, h1, h2⟩ := ok_all h
  rw [← hf] at h1 h2
  have fl := figs_len h
  have hd : (figs (cs z)).head? = some ((cs fz).getD 0 0) := by rw [← hf]; exact hd_get (by omega)
  have one : canon (cs z) = true → ∃ x, intText? z = some x ∧ z.length ≤ 640 ∧ 1 ≤ sizeLine ∧ ∀ (p : Addr), H1 p = none → Q (V.ref p) (upd H1 p (HO.lst [V.int x])) := fun hc => by
    refine ⟨_, int_val h, by omega, by decide, fun p hp => hQ p _ (Ex.none e1 hp) (e1.trans (Ex.new hp)) ?_⟩
    rw [upd_same, er]
    unfold numV
    rw [h, hc]
    rfl
  have z0 : Str.ofString "0" = ⟨#[48]⟩ := by decide +kernel
  have ez : z = Str.ofString "0" ↔ cs z = [48] := ⟨fun q => by rw [q]; decide +kernel, fun q => cs_inj (by rw [q]; decide +kernel)⟩
  refine ⟨Nat.le_trans (show fz.length ≤ 1000000 by omega) (by decide), _, at_get (show 0 < (cs fz).length by omega), ?_⟩
  have one0 : ∀ {c : Nat}, (⟨#[c]⟩ : Str) = Str.ofString "0" ↔ c = 48 := by intro c; rw [z0, one_eq]
  refine ite2 (fun h3 => ite2 (fun h4 => ?_) (fun h4 => ?_)) (fun h3 => ?_)
  · have h3 := one0.mp h3
    refine nil_ _ e1 ?_
    unfold numV
    have : canon (cs z) = false := by
      unfold canon
      rw [hd, h3, decide_eq_true rfl, decide_eq_false fun q => h4 (ez.mpr q)]
      rfl
    rw [h, this]
    rfl
  · refine one ?_
    unfold canon
    rw [decide_eq_true (ez.mp (Decidable.byContradiction h4)), Bool.not_true, Bool.and_false]
    rfl
  · refine one ?_
    unfold canon
    rw [hd, decide_eq_false fun q => h3 (one0.mpr (Option.some.inj q))]
    rfl
theorem cut_one (z : Str) : cutS z none (some 1) = Str.ofString "-" ↔ (cs z).head? = some 45 := by
  have e : HT.sIx z.length z.length (some ((1 : Nat) : Int)) = min 1 z.length := HT.sIx_nat _ _ _
  have lz := cs_len z
  have ec : cs (cutS z none (some 1)) = (cs z).take 1 := by
    show ((cs z).drop (HT.sIx z.length 0 none)).take (HT.sIx z.length z.length (some ((1 : Nat) : Int)) - HT.sIx z.length 0 none) = _
    rw [e, HT.sIx_none, List.drop_zero, Nat.sub_zero]
    rcases Nat.lt_or_ge z.length 1 with q | q
    · have : cs z = [] := List.eq_nil_of_length_eq_zero (by omega)
      rw [this]
      simp
    · rw [Nat.min_eq_left q]
  have e2 : cs (Str.ofString "-") = [45] := by decide +kernel
  constructor
  · intro h
    have := congrArg cs h
    rw [ec, e2] at this
    cases hz : cs z with
    | nil => rw [hz] at this; cases this
    | cons c r => rw [hz] at this; cases this; rfl
  · intro h
    apply cs_inj
    rw [ec, e2]
    cases hz : cs z with
    | nil => rw [hz] at h; cases h
    | cons c r => rw [hz] at h; cases h; rfl
theorem read_tail {z : Str} {H0 : Hp} {Q : VK} (hz : (cs z).length ≤ 5000) (er : rdV z = (numV (cs z)).map V.int) (hQ : ∀ D H', H0 D = none → Ex H0 H' → H' D = some (.lst (rdV z).toList) → Q (.ref D) H') :
    z.length ≤ sizeLine ∧ if cutS z none (some 1) = Str.ofString "-" then z.length ≤ sizeLine ∧ spFig [V.str (cutS z (some 1) none)] H0 (fun x H1 => ∃ c, x = V.bl c ∧ if c = false then 0 ≤ sizeLine ∧ ∀ (p : Addr), H1 p = none → Q (V.ref p) (upd H1 p (HO.lst [])) else
      (cutS z (some 1) none).length ≤ sizeLine ∧ ∃ x, atI (cutS z (some 1) none).cps.toList 0 = some x ∧ if { cps := #[x] } = Str.ofString "0" then if ¬z = Str.ofString "0" then 0 ≤ sizeLine ∧ ∀ (p : Addr), H1 p = none → Q (V.ref p) (upd H1 p (HO.lst [])) else ∃ x, intText? z = some x ∧ z.length ≤ 640 ∧ 1 ≤ sizeLine ∧ ∀ (p : Addr), H1 p = none → Q (V.ref p) (upd H1 p (HO.lst [V.int x]))
        else ∃ x, intText? z = some x ∧ z.length ≤ 640 ∧ 1 ≤ sizeLine ∧ ∀ (p : Addr), H1 p = none → Q (V.ref p) (upd H1 p (HO.lst [V.int x]))) E0
    else spFig [V.str z] H0 (fun x H1 => ∃ c, x = V.bl c ∧ if c = false then 0 ≤ sizeLine ∧ ∀ (p : Addr), H1 p = none → Q (V.ref p) (upd H1 p (HO.lst [])) else
      z.length ≤ sizeLine ∧ ∃ x, atI z.cps.toList 0 = some x ∧ if { cps := #[x] } = Str.ofString "0" then if ¬z = Str.ofString "0" then 0 ≤ sizeLine ∧ ∀ (p : Addr), H1 p = none → Q (V.ref p) (upd H1 p (HO.lst [])) else ∃ x, intText? z = some x ∧ z.length ≤ 640 ∧ 1 ≤ sizeLine ∧ ∀ (p : Addr), H1 p = none → Q (V.ref p) (upd H1 p (HO.lst [V.int x]))
        else ∃ x, intText? z = some x ∧ z.length ≤ 640 ∧ 1 ≤ sizeLine ∧ ∀ (p : Addr), H1 p = none → Q (V.ref p) (upd H1 p (HO.lst [V.int x]))) E0 := by
  have lz := cs_len z
  have hzl : z.length ≤ sizeLine := Nat.le_trans (show z.length ≤ 1000000 by omega) (by decide)
  refine ⟨hzl, ite2 (fun h => ⟨hzl, ?_⟩) (fun h => ?_)⟩
  · have h := (cut_one z).mp h
    exact num_tail hz (Nat.le_trans (cutS_le z _ _) hz) (by rw [cut_tail]; exact (if_pos h).symm) er hQ
  · exact num_tail hz hz (if_neg fun q => h ((cut_one z).mpr q)).symm er hQ
theorem ok_law_read (T : Txt P K mg) : Fo false P w K mg base CX0 2 d_law_read ["_law_text_here"] spLRead := by
  obtain ⟨fd, F⟩ := T.dfn 16 (d := d_law_read)
  refine ⟨fd, Fq.mk' F sc_law_read (fun vs H Q E h => ?_) (fun cdv A outer s H vs Q E hg hr h => ?_), F⟩
  · obtain ⟨z, rfl, _⟩ := h
    rfl
  obtain ⟨z, rfl, hz, hQ⟩ := h
  refine ⟨_, (PSs.nox (pss_cons (ps_if (pt_cmpR op_in_seq (pv 0) (pe_tup (pa_cons pe_str (pa_cons pe_str (pa_cons pe_str pa_nil)))) (by rfl)) (pss_one (ps_ret (pe_lst (pa_cons (pe_dget2 (hu_of hr) (pe_disp (pps_cons pe_str pe_bl (pps_cons pe_str pe_bl pps_nil)) (by rfl) (by rfl) (fun z => by cases z) (by decide)) (pv 0) pe_non ⟨rfl, rfl, rfl, rfl⟩) pa_nil)))) pss_nil)
      (pss_cons (ps_set (i := 1) sc_law_read.nd rfl (Or.inl rfl) (pe_slice sl_str (pv 0) (po_some pe_int) (po_some (pe_un un_neg pe_int))))
      (pss_cons (ps_if (PW.pt (pw_and (pt_cmpR op_gt (pe_callB call_len_str rfl (T.free 51) (by decide +kernel) (pa_cons (pv 0) pa_nil)) pe_int (nomark _)) (pw_and (pt_cmpR op_eq (pe_ix ix_str (pv 0) pe_int (fun _ _ => rfl)) pe_str (nomark _)) (pw_and1 (pt_cmpR op_eq (pe_ix ix_str (pv 0) (pe_un un_neg pe_int) (fun _ _ => rfl)) pe_str (nomark _)))))) (pss_one (ps_ret (pe_ifExp (pt_val (pe_o (ok_law_is_value T) (T.glo 28) (b_law_is_value) gd_false (hr.mono (by omega)) rfl pass0 (pa_cons (pv 1) pa_nil))) (pe_lst (pa_cons (pv 1) pa_nil)) (pe_lst pa_nil)))) pss_nil)
      (pss_cons (ps_set (i := 2) sc_law_read.nd rfl (Or.inl rfl) (pe_ifExp (pt_cmpR op_eq (pe_slice sl_str (pv 0) po_none (po_some pe_int)) pe_str (nomark _)) (pe_slice sl_str (pv 0) (po_some pe_int) po_none) (pv 0)))
      (pss_cons (ps_if (PW.pt (pw_or (pt_not (pt_val (pe_o (ok_law_figures T) (T.glo 30) (b_law_figures) gd_false (hr.mono (by omega)) rfl pass0 (pa_cons (pv 2) pa_nil)))) (pw_or1 (PW.pt (pw_and (pt_cmpR op_eq (pe_ix ix_str (pv 2) pe_int (fun _ _ => rfl)) pe_str (nomark _)) (pw_and1 (pt_cmpR op_ne (pv 0) pe_str (nomark _)))))))) (pss_one (ps_ret (pe_lst pa_nil))) pss_nil)
      (pss_one (ps_ret (pe_lst (pa_cons (pe_callTy call_int_str rfl (T.free 44) (by decide +kernel) (pa_cons (pv 0) pa_nil)) pa_nil)))))))))), ?_⟩
  walk_at "rd"
  have lz := cs_len z
  have hzl : z.length ≤ sizeLine := Nat.le_trans (show z.length ≤ 1000000 by omega) (by decide)
  refine ⟨by decide, fun p hp => ⟨_, .inr (SqT.of upd_same), rfl, rfl, ?_⟩⟩
  have e0 : Ex H (upd H p (HO.tup [V.str (Str.ofString "true"), V.str (Str.ofString "false"), V.str (Str.ofString "empty")])) := Ex.new hp
  generalize upd H p (HO.tup [V.str (Str.ofString "true"), V.str (Str.ofString "false"), V.str (Str.ofString "empty")]) = H0 at e0 ⊢
  refine ite2 (fun h1 => ?_) (fun h1 => ?_)
  · have h1 : z = "true" ∨ z = "false" ∨ z = "empty" := by
      have : (Str.ofString "true" == z || (Str.ofString "false" == z || (Str.ofString "empty" == z || false))) = true := h1
      simp only [Bool.or_eq_true, beq_iff_eq, Bool.or_false] at this
      exact this.imp Eq.symm (Or.imp Eq.symm Eq.symm)
    intro p1 hp1
    refine ⟨upd_same, [(.inr (Str.ofString "true"), .bl true), (.inr (Str.ofString "false"), .bl false)], rfl, by decide, .inl ⟨_, .inl upd_same⟩, _, .inl ⟨_, .inr z, .inl upd_same, rfl, rfl⟩, by decide, fun D hD => hQ D _ ?_ ?_ ?_⟩
    · have h := upd_none hD
      have h := upd_none h.2
      exact Ex.none e0 h.2
    · exact Same.trans (Ex.keep (Ex.keep e0 (Ex.none e0 hp1)) (Ex.none e0 hp1)) (Ex.new hD)
    · rw [upd_same]
      rcases h1 with rfl | rfl | rfl <;> congr 2
  · have n1 : ¬ z = "true" := fun q => h1 (by rw [q]; decide +kernel)
    have n2 : ¬ z = "false" := fun q => h1 (by rw [q]; decide +kernel)
    have n3 : ¬ z = "empty" := fun q => h1 (by rw [q]; decide +kernel)
    have hQ0 : ∀ D H', H0 D = none → Ex H0 H' → H' D = some (.lst (rdV z).toList) → Q (.ref D) H' := fun D H' hD e hd => hQ D H' (Ex.none e0 hD) (e0.trans e) hd
    have er0 : quoted (cs z) = false → rdV z = (numV (cs z)).map V.int := fun hq => by
      unfold rdV
      rw [if_neg n3, if_neg n1, if_neg n2, hq]
      rfl
    refine ⟨hzl, hzl, ite2 (fun h3 => ⟨hzl, _, at_get (show 0 < (cs z).length by omega), ite2 (fun h4 => ⟨hzl, _, at_last (show 0 < (cs z).length by omega), ite2 (fun h5 => ?_) (fun h5 => ?_)⟩) (fun h4 => ?_)⟩) (fun h3 => ?_)⟩
    · have hq : quoted (cs z) = true := by
        unfold quoted
        rw [decide_eq_true (show 1 < (cs z).length by omega), decide_eq_true (show (cs z).head? = some 39 by rw [hd_get (by omega), one_q.mp h4]), decide_eq_true (show (cs z).getLast? = some 39 by rw [lst_get (by omega), one_q.mp h5])]
        rfl
      refine ⟨_, rfl, Nat.le_trans (Nat.le_trans (cutS_le z _ _) hz) (by decide), fun H2 e2 => ⟨_, rfl, ite2 (fun h6 => ⟨by decide, fun D hD => hQ0 D _ (Ex.none e2 hD) (e2.trans (Ex.new hD)) ?_⟩) (fun h6 => ⟨by decide, fun D hD => hQ0 D _ (Ex.none e2 hD) (e2.trans (Ex.new hD)) ?_⟩)⟩⟩
      · rw [upd_same]
        unfold rdV
        rw [if_neg n3, if_neg n1, if_neg n2, hq, show isVal (.str (inner z)) = true from h6]
        rfl
      · rw [upd_same]
        unfold rdV
        rw [if_neg n3, if_neg n1, if_neg n2, hq, show isVal (.str (inner z)) = false from Bool.eq_false_iff.mpr h6, quoted_num hq]
        rfl
    · refine read_tail hz (er0 ?_) hQ0
      unfold quoted
      rw [decide_eq_false (show ¬ (cs z).getLast? = some 39 by rw [lst_get (by omega)]; exact fun q => h5 (one_q.mpr (Option.some.inj q))), Bool.and_false, Bool.and_false]
    · refine read_tail hz (er0 ?_) hQ0
      unfold quoted
      rw [decide_eq_false (show ¬ (cs z).head? = some 39 by rw [hd_get (by omega)]; exact fun q => h4 (one_q.mpr (Option.some.inj q))), Bool.false_and, Bool.and_false]
    · refine read_tail hz (er0 ?_) hQ0
      unfold quoted
      rw [decide_eq_false (show ¬ 1 < (cs z).length by omega), Bool.false_and]
end
end K14

set_option Elab.async false
set_option linter.all false
set_option maxRecDepth 100000
set_option maxHeartbeats 4000000
namespace K14
open PySem PySem.Spec PyProof.Rows L2 Ab
local macro_rules | `(tactic| walk_at "rd") => `(tactic| simp only [start_eq, List.map_cons, List.map_nil, List.length_cons, List.length_nil, List.replicate_succ, List.replicate_zero, List.cons_append, List.nil_append, Nat.reduceSub, Nat.reduceAdd, Nat.zero_add,
  tSeq, tAsg, tIf, tTest, tOp, tVar, tCB, tCons, tNil, tC, gName, tRet, tLst, tTup, tIfS, tPar3, tDrop, tB, tAnd, tOr, tNot, tAndV, tOrV, tNotV, tUn, tNext, tNever, gTup, gSub, gCons, gNil, rSetL, tPar, rCat, rRep, rAppend, rAll, rAny, tM0, tM1, tBM, tBM0, tDisp, tPairs, rIn, tChain, tPart, tFld, tFmt, tJs, rRepS, tSl, tNoPart, rSlS, tAug, ipI, tDGet, rSetD, tOX, tMkX, rSimE, rSimN, tDGet2, tFor_eq, tLc_eq, iRng1, iRng2, iList, iTup, iStr, rI0, rI, rU, rIxL, rIxT, rIxS, tO, gPos, StX.tMakeR, tDNewK, sFld, ClX.tCVal, rSortedS, rEq, rNe, scal_ii, scal_ss, scal_bb, scal_nn, scal_is, scal_si, cx_K, cx_Kn,
  V.int.injEq, V.ref.injEq, V.str.injEq, V.bl.injEq, List.cons.injEq, Bool.not_eq_true', decide_eq_true_eq, decide_eq_false_iff_not, if_true, if_false, Bool.not_true, Bool.not_false, Bool.false_eq_true, not_true_eq_false, not_false_eq_true, and_assoc, and_true, true_and, exists_eq_left', exists_eq_left, exists_and_left, reduceCtorEq, false_and, and_false, exists_false, or_false, false_or,
  List.getElem?_cons_zero, List.getElem?_cons_succ, Option.some.injEq, List.set_cons_zero, List.set_cons_succ])
local macro_rules | `(tactic| walk_at "rk") => `(tactic| simp only [start_eq, List.map_cons, List.map_nil, List.length_cons, List.length_nil, List.replicate_succ, List.replicate_zero, List.cons_append, List.nil_append, Nat.reduceSub, Nat.reduceAdd, Nat.zero_add,
  tSeq, tAsg, tTest, tOp, tVar, tCB, tCons, tNil, tC, gName, tRet, tLst, tTup, tIfS, tPar3, tDrop, tB, tAnd, tOr, tNot, tNotV, tUn, tNext, tNever, gTup, gSub, gCons, gNil, rSetL, tPar, rCat, rRep, rAppend, rAll, rAny, tM0, tM1, tBM, tBM0, tDisp, tPairs, rIn, tChain, tPart, tFld, tFmt, tJs, rRepS, tSl, tNoPart, rSlS, tAug, ipI, tDGet, rSetD, tOX, tMkX, rSimE, rSimN, tDGet2, tFor_eq, tLc_eq, iRng1, iRng2, iList, iTup, iStr, rI0, rI, rU, rIxL, rIxT, rIxS, tO, gPos, StX.tMakeR, tDNewK, sFld, ClX.tCVal, rSortedS, rEq, rNe, scal_ii, scal_ss, scal_bb, scal_nn, scal_is, scal_si, cx_K, cx_Kn,
  V.int.injEq, V.ref.injEq, V.str.injEq, V.bl.injEq, List.cons.injEq, Bool.not_eq_true', decide_eq_true_eq, decide_eq_false_iff_not, if_true, if_false, Bool.not_true, Bool.not_false, Bool.false_eq_true, not_true_eq_false, not_false_eq_true, and_assoc, and_true, true_and, exists_eq_left', exists_eq_left, exists_and_left, reduceCtorEq, false_and, and_false, exists_false, or_false, false_or,
  List.getElem?_cons_zero, List.getElem?_cons_succ, Option.some.injEq, List.set_cons_zero, List.set_cons_succ])
def spRR (K : PySem.W.Frag) : Sp := fun vs H Q _ => ∃ v : V, vs = [v] ∧ (∀ H', Ex H H' → Ty K H' v) ∧ (∀ z, v = .str z → Gn 5000 z) ∧ ∀ H', Ex H H' → Q (.bl true) H'
def spWR (K : PySem.W.Frag) : Sp := fun vs H Q _ => ∃ (v : V) (d : PyData), vs = [v] ∧ (∀ H', Ex H H' → Ty K H' v) ∧ (∀ i, v = .int i → i.natAbs < 10 ^ 42) ∧ Rep K H v d ∧ ∀ H', Ex H H' → Q (.bl true) H'
section
variable {P : Program} {w : World} {K : PySem.W.Frag} {mg : Str → Option Value} {base : Heap}
theorem ok_law_read_right (T : Txt P K mg) : Fo true P w K mg base CX0 5 d_law_read_right ["_law_thing"] (spRR K) := by
  obtain ⟨fd, F⟩ := T.dfn 20 (d := d_law_read_right)
  refine ⟨fd, Fq.mk' F sc_law_read_right (fun vs H Q E h => ?_) (fun cdv A outer s H vs Q E hg hr h => ?_), F⟩
  · obtain ⟨v, rfl, _⟩ := h
    rfl
  obtain ⟨v, rfl, hT, hz, hQ⟩ := h
  refine ⟨_, (PSs.nox (pss_cons (ps_if (pt_not (pt_val (pe_callB call_isi rfl (T.free 42) (by decide +kernel) (pa_cons (pv 0) (pa_cons (pe_bltn (v := .ty "str") rfl (T.free 45) (by decide +kernel) rfl) pa_nil))))) (pss_one (ps_ret (pe_cmpR (op_simE hr.units) (pe_o (ok_law_told T) (T.glo 34) (b_law_told) hg (hr.mono (by omega)) rfl pass0 (pa_cons (pv 0) pa_nil)) (pe_tup (pa_cons pe_str (pa_cons pe_str pa_nil))) (nomark _)))) pss_nil)
      (pss_cons (ps_set (i := 1) sc_law_read_right.nd rfl (Or.inl rfl) (pe_o (ok_law_read T) (T.glo 31) (b_law_read) gd_false (hr.mono (by omega)) rfl pass0 (pa_cons (pv 0) pa_nil)))
      (pss_cons (ps_if (pt_cmpR (op_eqL hr.units) (pv 1) (pe_lst pa_nil) (nomark _)) (pss_one (ps_ret (pe_cmpR (op_simE hr.units) (pe_o (ok_law_told T) (T.glo 34) (b_law_told) hg (hr.mono (by omega)) rfl pass0 (pa_cons (pv 0) pa_nil)) (pe_tup (pa_cons pe_str (pa_cons pe_str pa_nil))) (nomark _)))) pss_nil)
      (pss_one (ps_ret (pe_cmpR (op_simE hr.units) (pe_o (ok_law_told T) (T.glo 34) (b_law_told) hg (hr.mono (by omega)) rfl pass0 (pa_cons (pv 0) pa_nil)) (pe_tup (pa_cons pe_str (pa_cons (pe_callB (Ab.call_reprK (K := K) rfl (hg rfl) hr.units) rfl (T.free 52) (by decide +kernel) (pa_cons (pe_ix ix_list (pv 1) pe_int (fun _ _ => rfl)) pa_nil)) (pa_cons (pe_callB (Ab.call_reprK (K := K) rfl (hg rfl) hr.units) rfl (T.free 52) (by decide +kernel) (pa_cons (pe_ix ix_list (pv 1) pe_int (fun _ _ => rfl)) pa_nil)) pa_nil)))) (nomark _)))))))), ?_⟩
  walk_at "rd"
  have tup2 : ∀ {H1 : Hp} {D p : Addr} {x y : Str}, H1 D = some (.tup [.str x, .str y]) → H1 p = none → SimR K (upd H1 p (HO.tup [V.str x, V.str y])) 1 (.ref D) (.ref p) := fun hD hp => .flatT (SqT.of ((upd_ne (ne_of_none hD hp)).trans hD)) (SqT.of upd_same) fun x hx => by
    simp only [List.mem_cons, List.not_mem_nil, or_false] at hx
    rcases hx with rfl | rfl <;> rfl
  refine is_str (hT _ (Same.refl _)) ⟨_, rfl, ite2 (fun h1 => ?_) (fun h1 => ?_)⟩
  · exact ⟨v, rfl, .inr ⟨h1, hT, fun D H1 hD e1 h => ⟨by decide, fun p hp => ⟨1, by decide, tup2 h hp, hQ _ (e1.trans (Ex.new hp))⟩⟩⟩⟩
  cases v with
  | str z =>
    have hz := hz z rfl
    refine ⟨z, rfl, hz.1, fun D H1 hD e1 h => ⟨by decide, fun p hp => ?_⟩⟩
    cases hr : rdV z with
    | none =>
      rw [hr] at h
      refine .inr ⟨1, by decide, .flatL (xs := []) (SqL.of ((upd_ne (ne_of_none h hp)).trans h)) (SqL.of upd_same) fun x hx => (nomatch hx), _, rfl, ?_⟩
      rw [if_pos rfl]
      refine ⟨_, rfl, .inl ⟨z, rfl, hz, fun u hu => (by rw [hr] at hu; cases hu), fun _ D2 H2 hD2 e2 h2 => ⟨by decide, fun p2 hp2 => ⟨1, by decide, tup2 h2 hp2, hQ _ ?_⟩⟩⟩⟩
      exact Same.trans (Same.trans (Same.trans e1 (Ex.new hp)) e2) (Ex.new hp2)
    | some u =>
      rw [hr] at h
      obtain ⟨f, sh, dp, sz⟩ := rdV_ok hz hr
      have h' : upd H1 p (HO.lst []) D = some (.lst [u]) := (upd_ne (ne_of_none h hp)).trans h
      refine .inl ⟨_, _, _, [], rfl, rfl, SqL.of h', SqL.of upd_same, by simp, _, rfl, ?_⟩
      rw [if_neg (by decide)]
      refine ⟨_, rfl, .inl ⟨z, rfl, hz, fun u2 hu2 D2 H2 hD2 e2 h2 => ?_, fun hn => (by rw [hr] at hn; cases hn)⟩⟩
      rw [hr] at hu2
      cases hu2
      refine ⟨_, rfl, _, SqL.of (e2 _ _ h'), u, rfl, u, fD u, rfl, .inl (fD_dp f), sh, dp, sz, _, rfl, _, SqL.of (e2 _ _ h'), u, rfl, u, fD u, rfl, .inl (fD_dp f), sh, dp, sz, by decide, fun p2 hp2 => ⟨1, by decide, .flatT (SqT.of ((upd_ne (ne_of_none h2 hp2)).trans h2)) (SqT.of upd_same) fun x hx => ?_, hQ _ ?_⟩⟩
      · simp only [List.mem_cons, List.not_mem_nil, or_false] at hx
        rcases hx with rfl | rfl | rfl <;> rfl
      · exact Same.trans (Same.trans (Same.trans e1 (Ex.new hp)) e2) (Ex.new hp2)
  | _ => exact absurd rfl h1
theorem ok_law_written_right (T : Txt P K mg) : Fo true P w K mg base CX0 5 d_law_written_right ["_law_thing"] (spWR K) := by
  obtain ⟨fd, F⟩ := T.dfn 22 (d := d_law_written_right)
  refine ⟨fd, Fq.mk' F sc_law_written_right (fun vs H Q E h => ?_) (fun cdv A outer s H vs Q E hg hr h => ?_), F⟩
  · obtain ⟨v, d, rfl, _⟩ := h
    rfl
  obtain ⟨v, d, rfl, hT, hi, hR, hQ⟩ := h
  refine ⟨_, (PSs.nox (pss_cons (ps_if (pt_not (pt_val (pe_o (ok_law_is_value T) (T.glo 28) (b_law_is_value) gd_false (hr.mono (by omega)) rfl pass0 (pa_cons (pv 0) pa_nil)))) (pss_one (ps_ret (pe_cmpR (op_simE hr.units) (pe_o (ok_law_written T) (T.glo 36) (b_law_written) hg (hr.mono (by omega)) rfl pass0 (pa_cons (pv 0) pa_nil)) (pe_tup (pa_cons pe_str (pa_cons (pe_callB (Ab.call_reprK (K := K) rfl (hg rfl) hr.units) rfl (T.free 52) (by decide +kernel) (pa_cons (pv 0) pa_nil)) pa_nil))) (nomark _)))) pss_nil)
      (pss_one (ps_ret (pe_cmpR (op_simE hr.units) (pe_o (ok_law_written T) (T.glo 36) (b_law_written) hg (hr.mono (by omega)) rfl pass0 (pa_cons (pv 0) pa_nil)) (pe_tup (pa_cons pe_str (pa_cons (pe_o (ok_law_text T) (T.glo 29) (b_law_text) gd_false (hr.mono (by omega)) rfl pass0 (pa_cons (pv 0) pa_nil)) (pa_cons (pe_o (ok_law_text T) (T.glo 29) (b_law_text) gd_false (hr.mono (by omega)) rfl pass0 (pa_cons (pv 0) pa_nil)) pa_nil)))) (nomark _)))))), ?_⟩
  walk_at "rd"
  refine ⟨v, rfl, hT _ (Same.refl _), fun H1 e1 => ⟨_, rfl, ite2 (fun h1 => ?_) (fun h1 => ?_)⟩⟩
  · refine ⟨v, d, rfl, fun H' e => hT _ (e1.trans e), hi, ⟨fun H' e => hR.rd _ (e1.trans e), hR.sh, hR.dp, hR.sz⟩, fun h2 => (by rw [h1] at h2; cases h2), fun _ D H2 hD e2 h => ?_⟩
    refine ⟨v, d, rfl, hR.rd _ (e1.trans e2), hR.sh, hR.dp, hR.sz, by decide, fun p hp => ⟨1, by decide, .flatT (SqT.of ((upd_ne (ne_of_none h hp)).trans h)) (SqT.of upd_same) fun x hx => ?_, hQ _ ((e1.trans e2).trans (Ex.new hp))⟩⟩
    simp only [List.mem_cons, List.not_mem_nil, or_false] at hx
    rcases hx with rfl | rfl <;> rfl
  · have h1 : isVal v = true := by simpa using h1
    have hz : ∀ z, v = .str z → (cs z).length ≤ 60 := fun z hz => by
      subst hz
      exact of_decide_eq_true (He.ba h1).1
    refine ⟨v, d, rfl, fun H' e => hT _ (e1.trans e), hi, ⟨fun H' e => hR.rd _ (e1.trans e), hR.sh, hR.dp, hR.sz⟩, fun _ D H2 hD e2 h => ?_, fun h2 => (by rw [h1] at h2; cases h2)⟩
    refine ⟨v, rfl, h1, hz, fun H3 e3 => ⟨v, rfl, h1, hz, fun H4 e4 => ⟨by decide, fun p hp => ⟨1, by decide, .flatT (SqT.of ((upd_ne (ne_of_none (e4 _ _ (e3 _ _ h)) hp)).trans (e4 _ _ (e3 _ _ h)))) (SqT.of upd_same) fun x hx => ?_, hQ _ ((((e1.trans e2).trans e3).trans e4).trans (Ex.new hp))⟩⟩⟩⟩
    simp only [List.mem_cons, List.not_mem_nil, or_false] at hx
    rcases hx with rfl | rfl | rfl <;> rfl
end
end K14

set_option Elab.async false
set_option linter.all false
set_option maxRecDepth 100000
set_option maxHeartbeats 4000000
namespace K14
open PySem PySem.Spec PyProof.Rows L2 Ab
local macro_rules | `(tactic| walk_at "rd") => `(tactic| simp only [start_eq, List.map_cons, List.map_nil, List.length_cons, List.length_nil, List.replicate_succ, List.replicate_zero, List.cons_append, List.nil_append, Nat.reduceSub, Nat.reduceAdd, Nat.zero_add,
  tSeq, tAsg, tIf, tTest, tOp, tVar, tCB, tCons, tNil, tC, gName, tRet, tLst, tTup, tIfS, tPar3, tDrop, tB, tAnd, tOr, tNot, tAndV, tOrV, tNotV, tUn, tNext, tNever, gTup, gSub, gCons, gNil, rSetL, tPar, rCat, rRep, rAppend, rAll, rAny, tM0, tM1, tBM, tBM0, tDisp, tPairs, rIn, tChain, tPart, tFld, tFmt, tJs, rRepS, tSl, tNoPart, rSlS, tAug, ipI, tDGet, rSetD, tOX, tMkX, rSimE, rSimN, tDGet2, tFor_eq, tLc_eq, iRng1, iRng2, iList, iTup, iStr, rI0, rI, rU, rIxL, rIxT, rIxS, tO, gPos, StX.tMakeR, tDNewK, sFld, ClX.tCVal, rSortedS, rEq, rNe, scal_ii, scal_ss, scal_bb, scal_nn, scal_is, scal_si, cx_K, cx_Kn,
  V.int.injEq, V.ref.injEq, V.str.injEq, V.bl.injEq, List.cons.injEq, Bool.not_eq_true', decide_eq_true_eq, decide_eq_false_iff_not, if_true, if_false, Bool.not_true, Bool.not_false, Bool.false_eq_true, not_true_eq_false, not_false_eq_true, and_assoc, and_true, true_and, exists_eq_left', exists_eq_left, exists_and_left, reduceCtorEq, false_and, and_false, exists_false, or_false, false_or,
  List.getElem?_cons_zero, List.getElem?_cons_succ, Option.some.injEq, List.set_cons_zero, List.set_cons_succ])
local macro_rules | `(tactic| walk_at "rk") => `(tactic| simp only [start_eq, List.map_cons, List.map_nil, List.length_cons, List.length_nil, List.replicate_succ, List.replicate_zero, List.cons_append, List.nil_append, Nat.reduceSub, Nat.reduceAdd, Nat.zero_add,
  tSeq, tAsg, tTest, tOp, tVar, tCB, tCons, tNil, tC, gName, tRet, tLst, tTup, tIfS, tPar3, tDrop, tB, tAnd, tOr, tNot, tNotV, tUn, tNext, tNever, gTup, gSub, gCons, gNil, rSetL, tPar, rCat, rRep, rAppend, rAll, rAny, tM0, tM1, tBM, tBM0, tDisp, tPairs, rIn, tChain, tPart, tFld, tFmt, tJs, rRepS, tSl, tNoPart, rSlS, tAug, ipI, tDGet, rSetD, tOX, tMkX, rSimE, rSimN, tDGet2, tFor_eq, tLc_eq, iRng1, iRng2, iList, iTup, iStr, rI0, rI, rU, rIxL, rIxT, rIxS, tO, gPos, StX.tMakeR, tDNewK, sFld, ClX.tCVal, rSortedS, rEq, rNe, scal_ii, scal_ss, scal_bb, scal_nn, scal_is, scal_si, cx_K, cx_Kn,
  V.int.injEq, V.ref.injEq, V.str.injEq, V.bl.injEq, List.cons.injEq, Bool.not_eq_true', decide_eq_true_eq, decide_eq_false_iff_not, if_true, if_false, Bool.not_true, Bool.not_false, Bool.false_eq_true, not_true_eq_false, not_false_eq_true, and_assoc, and_true, true_and, exists_eq_left', exists_eq_left, exists_and_left, reduceCtorEq, false_and, and_false, exists_false, or_false, false_or,
  List.getElem?_cons_zero, List.getElem?_cons_succ, Option.some.injEq, List.set_cons_zero, List.set_cons_succ])
def spS (n : Nat) : Sp := fun vs H Q _ => ∃ r : Addr, vs = [.ref r] ∧ Rng r H ∧ ∀ (z : Str) (H' : Hp), Gn n z → Dr r H H' → Q (.str z) H'
def sgn : Str := " !\"#$&()*+,-./0123456789:;<=>?@ABCDEFGHIJKLMNOPQRSTUVWXYZ[\\]^_`abcdefghijklmnopqrstuvwxyz{|}~"
def spSigns : Sp := fun vs H Q _ => vs = [] ∧ Q (.str sgn) H
def spFD : Sp := fun vs H Q _ => ∃ r : Addr, vs = [.ref r] ∧ Rng r H ∧ ∀ (z : Str) (H' : Hp), figB (cs z) = true → Dr r H H' → Q (.str z) H'
def spNum : Sp := fun vs H Q _ => ∃ r : Addr, vs = [.ref r] ∧ Rng r H ∧ ∀ (i : Int) (H' : Hp), i.natAbs < 10 ^ 30 → Dr r H H' → Q (.int i) H'
/-- a string that is a value -/
def Okz (z : Str) : Prop := Gn 60 z ∧ 39 ∉ cs z
instance (z : Str) : Decidable (Okz z) := by unfold Okz; infer_instance
def okzB : V → Bool
  | .str z => decide (Okz z)
  | _ => false
theorem okzs {xs : List V} (h : xs.all okzB = true) {v : V} (hv : v ∈ xs) : ∃ z, v = .str z ∧ Okz z := by
  have := List.all_eq_true.mp h v hv
  cases v with
  | str z => exact ⟨z, rfl, of_decide_eq_true this⟩
  | _ => cases this
def spStr : Sp := fun vs H Q _ => ∃ r : Addr, vs = [.ref r] ∧ Rng r H ∧ ∀ (z : Str) (H' : Hp), Okz z → Dr r H H' → Q (.str z) H'
/-- a value -/
def Gv : V → Prop
  | .non => True
  | .bl _ => True
  | .int i => i.natAbs < 10 ^ 30
  | .str z => Okz z
  | _ => False
def spAny : Sp := fun vs H Q _ => ∃ r : Addr, vs = [.ref r] ∧ Rng r H ∧ ∀ (v : V) (H' : Hp), Gv v → Dr r H H' → Q v H'
def spSpoilt : Sp := fun vs H Q _ => ∃ (r : Addr) (z : Str), vs = [.ref r, .str z] ∧ Gn 100 z ∧ Rng r H ∧ ∀ (z : Str) (H' : Hp), Gn 110 z → Dr r H H' → Q (.str z) H'
section
variable {P : Program} {w : World} {K : PySem.W.Frag} {mg : Str → Option Value} {base : Heap}
theorem ok_law_signs (T : Txt P K mg) : Fo false P w K mg base CX0 1 d_law_signs [] spSigns := by
  obtain ⟨fd, F⟩ := T.dfn 8 (d := d_law_signs)
  refine ⟨fd, Fq.mk' F sc_law_signs (fun vs H Q E h => ?_) (fun cdv A outer s H vs Q E hg hr h => ?_), F⟩
  · obtain ⟨rfl, _⟩ := h
    rfl
  obtain ⟨rfl, hQ⟩ := h
  refine ⟨_, (PSs.nox (pss_cons (ps_set (i := 0) sc_law_signs.nd rfl (Or.inl rfl) pe_str)
      (pss_one (ps_ret (pe_op op_add_str (pv 0) pe_str))))), ?_⟩
  walk_at "rd"
  refine ⟨by decide +kernel, ?_⟩
  have e : (Str.ofString " !\"#$" ++ Str.ofString "&()*+,-./0123456789:;<=>?@ABCDEFGHIJKLMNOPQRSTUVWXYZ[\\]^_`abcdefghijklmnopqrstuvwxyz{|}~") = sgn := by decide +kernel
  rw [e]
  exact hQ
theorem ok_law_figures_drawn (T : Txt P K mg) : Fo false P w K mg base CX0 3 d_law_figures_drawn ["_law_rng_here"] spFD := by
  obtain ⟨fd, F⟩ := T.dfn 9 (d := d_law_figures_drawn)
  refine ⟨fd, Fq.mk' F sc_law_figures_drawn (fun vs H Q E h => ?_) (fun cdv A outer s H vs Q E hg hr h => ?_), F⟩
  · obtain ⟨r, rfl, _⟩ := h
    rfl
  obtain ⟨r, rfl, hR, hQ⟩ := h
  refine ⟨_, (PSs.nox (pss_one (ps_ret (pe_join pe_str (pe_lc (own := [("_law_k", 1)]) rfl sc_law_figures_drawn.nd (pi_range1 rfl (T.free 46) (pa_cons (pe_op op_add pe_int (pe_o (ok_law_draw T) (T.glo 21) (b_law_draw) gd_false (hr.mono (by omega)) rfl pass0 (pa_cons (pv 0) (pa_cons pe_int pa_nil)))) pa_nil)) (blkOk_by (own := [("_law_k", 1)]) (N := N_law_figures_drawn) (sc := defScope s_law_figures_drawn) (by decide +kernel)) (fun _ _ _ _ _ => (pg_name (i := 1) sc_law_figures_drawn.nd rfl (Or.inl rfl))) (fun _ _ _ _ _ => pts_nil) (fun _ _ _ _ _ => (pe_o (ok_law_choiceS T) (T.glo 22) (b_law_choice) gd_false (hr.mono (by omega)) rfl pass0 (pa_cons (pv 0) (pa_cons pe_str pa_nil))))))))), ?_⟩
  walk_at "rd"
  refine ⟨⟨_, rfl⟩, drawN hR (by decide) (by decide) fun n H1 hn d1 => ⟨_, rfl, by omega, by omega, ?_⟩⟩
  refine lc_dr walk_range d1.rg (fun _ _ => trivial) (by omega) (fun _ _ _ y => ∃ z : Str, y = .str z ∧ ∃ c ∈ cs digs, z = ⟨#[c]⟩) (fun _ _ _ _ _ _ e => e) ?_ ?_
  · rintro D i x H2 H3 hi hD hD2 d ⟨rfl, rfl⟩ Qn k
    walk_at "rd"
    exact ⟨rfl, _, rfl, r, _, rfl, d.rg, by decide +kernel, by decide +kernel, fun c H4 hc d4 => k _ _ d4 ⟨_, rfl, c, hc, rfl⟩⟩
  · intro D ys H2 hD d hy hl he
    obtain ⟨zs, rfl, hz⟩ := strs_of fun i y q => he i y q
    obtain ⟨h1, h2, h3⟩ := ones_sum hz
    rw [List.length_map] at hl
    have e : (Str.ofString "").length = 0 := by decide +kernel
    refine ⟨D, rfl, zs, Or.inl (SqL.of hy), by rw [h1, e]; omega, hQ _ _ ?_ (d1.trans d)⟩
    unfold figB
    rw [cs_join0, decide_eq_true (show 1 ≤ ((zs.map cs).flatten).length ∧ ((zs.map cs).flatten).length ≤ 30 by rw [h2]; omega), Bool.true_and, List.all_eq_true]
    exact fun c hc => decide_eq_true (h3 c hc)
theorem ok_law_number (T : Txt P K mg) : Fo false P w K mg base CX0 4 d_law_number ["_law_rng_here"] spNum := by
  obtain ⟨fd, F⟩ := T.dfn 10 (d := d_law_number)
  refine ⟨fd, Fq.mk' F sc_law_number (fun vs H Q E h => ?_) (fun cdv A outer s H vs Q E hg hr h => ?_), F⟩
  · obtain ⟨r, rfl, _⟩ := h
    rfl
  obtain ⟨r, rfl, hR, hQ⟩ := h
  refine ⟨_, (PSs.nox (pss_cons (ps_set (i := 1) sc_law_number.nd rfl (Or.inl rfl) (pe_o (ok_law_draw T) (T.glo 21) (b_law_draw) gd_false (hr.mono (by omega)) rfl pass0 (pa_cons (pv 0) (pa_cons pe_int pa_nil))))
      (pss_cons (ps_if (pt_cmpR op_lt (pv 1) pe_int (nomark _)) (pss_one (ps_ret (pe_op op_sub (pe_o (ok_law_draw T) (T.glo 21) (b_law_draw) gd_false (hr.mono (by omega)) rfl pass0 (pa_cons (pv 0) (pa_cons pe_int pa_nil))) pe_int))) pss_nil)
      (pss_cons (ps_if (pt_cmpR op_eq (pv 1) pe_int (nomark _)) (pss_one (ps_ret (pe_o (ok_law_choice T) (T.glo 22) (b_law_choice) gd_false (hr.mono (by omega)) rfl pass0 (pa_cons (pv 0) (pa_cons (pe_lst (pa_cons (pe_op op_sub (pe_op op_pow pe_int pe_int) pe_int) (pa_cons (pe_op op_sub pe_int (pe_op op_pow pe_int pe_int)) (pa_cons (pe_op op_pow pe_int pe_int) (pa_cons (pe_op op_pow pe_int pe_int) (pa_cons (pe_un un_neg (pe_op op_pow pe_int pe_int)) (pa_cons (pe_op op_pow pe_int pe_int) (pa_cons (pe_un un_neg (pe_op op_pow pe_int pe_int)) pa_nil)))))))) pa_nil))))) pss_nil)
      (pss_one (ps_ret (pe_op op_mul (pe_callTy call_int_str rfl (T.free 44) (by decide +kernel) (pa_cons (pe_o (ok_law_figures_drawn T) (T.glo 24) (b_law_figures_drawn) gd_false (hr.mono (by omega)) rfl pass0 (pa_cons (pv 0) pa_nil)) pa_nil)) (pe_op op_sub pe_int (pe_op op_mul pe_int (pe_o (ok_law_draw T) (T.glo 21) (b_law_draw) gd_false (hr.mono (by omega)) rfl pass0 (pa_cons (pv 0) (pa_cons pe_int pa_nil)))))))))))), ?_⟩
  walk_at "rd"
  refine drawN hR (by decide) (by decide) fun n H1 hn d1 => ⟨_, rfl, ite2 (fun h1 => ?_) (fun h1 => ⟨rfl, ite2 (fun h2 => ?_) (fun h2 => ?_)⟩)⟩
  · refine drawN d1.rg (by decide) (by decide) fun m H2 hm d2 => ⟨_, rfl, hQ _ _ ?_ (d1.trans d2)⟩
    have : ((m : Int) - 10).natAbs ≤ 100 := by omega
    exact Nat.lt_of_le_of_lt this (by decide)
  · refine ⟨⟨by decide, by decide, by decide⟩, ⟨by decide, by decide, by decide⟩, ⟨by decide, by decide, by decide⟩, ⟨by decide, by decide, by decide⟩, ⟨by decide, by decide, by decide⟩, ⟨by decide, by decide, by decide⟩, ⟨by decide, by decide, by decide⟩, by decide, fun p hp => chooseI (-10 ^ 30 + 1) (10 ^ 30 - 1) d1.rg hp (by decide +kernel) nofun (by decide) fun i H2 h3 h4 d2 => hQ _ _ ?_ (d1.trans d2)⟩
    omega
  · refine ⟨r, rfl, d1.rg, fun z H2 hz d2 => ?_⟩
    have hd : NumText.AllDigits (cs z) ∧ 1 ≤ (cs z).length ∧ (cs z).length ≤ 30 := by
      obtain ⟨q1, q2⟩ := He.ba hz
      exact ⟨fun c hc => digs_mem.mp (of_decide_eq_true (List.all_eq_true.mp q2 c hc)), of_decide_eq_true q1⟩
    have lz := cs_len z
    have hi := PySem.intText_digits (x := z) hd.1 (fun q => by have : cs z = [] := q; rw [this] at hd; simp at hd) (by omega)
    have hb : NumText.digitsVal (cs z) < 10 ^ 30 := Nat.lt_of_lt_of_le (dv_lt hd.1) (Nat.pow_le_pow_right (by decide) hd.2.2)
    refine ⟨z, rfl, _, hi, by omega, drawN d2.rg (by decide) (by decide) fun m H3 hm d3 => ⟨_, rfl, Or.inl ⟨by decide, by decide⟩, Or.inr ⟨by omega, by omega⟩, hQ _ _ ?_ ((d1.trans d2).trans d3)⟩⟩
    have : m = 0 ∨ m = 1 := by omega
    have hb' : NumText.digitsVal z.cps.toList < 10 ^ 30 := hb
    rcases this with q | q
    · rw [q]
      show (((NumText.digitsVal z.cps.toList : Nat) : Int) * (1 - 2 * 0)).natAbs < _
      omega
    · rw [q]
      show (((NumText.digitsVal z.cps.toList : Nat) : Int) * (1 - 2 * 1)).natAbs < _
      omega
theorem ok_law_string (T : Txt P K mg) : Fo false P w K mg base CX0 3 d_law_string ["_law_rng_here"] spStr := by
  obtain ⟨fd, F⟩ := T.dfn 11 (d := d_law_string)
  refine ⟨fd, Fq.mk' F sc_law_string (fun vs H Q E h => ?_) (fun cdv A outer s H vs Q E hg hr h => ?_), F⟩
  · obtain ⟨r, rfl, _⟩ := h
    rfl
  obtain ⟨r, rfl, hR, hQ⟩ := h
  refine ⟨_, (PSs.nox (pss_cons (ps_set (i := 1) sc_law_string.nd rfl (Or.inl rfl) (pe_lst (pa_cons pe_str (pa_cons pe_str (pa_cons pe_str (pa_cons pe_str (pa_cons pe_str (pa_cons pe_str (pa_cons pe_str (pa_cons pe_str (pa_cons pe_str (pa_cons pe_str (pa_cons pe_str (pa_cons pe_str (pa_cons pe_str (pa_cons (pe_op Ab.op_repS pe_str pe_int) (pa_cons pe_str pa_nil)))))))))))))))))
      (pss_cons (ps_if (pt_cmpR op_eq (pe_o (ok_law_draw T) (T.glo 21) (b_law_draw) gd_false (hr.mono (by omega)) rfl pass0 (pa_cons (pv 0) (pa_cons pe_int pa_nil))) pe_int (nomark _)) (pss_one (ps_ret (pe_o (ok_law_choice T) (T.glo 22) (b_law_choice) gd_false (hr.mono (by omega)) rfl pass0 (pa_cons (pv 0) (pa_cons (pv 1) pa_nil))))) pss_nil)
      (pss_one (ps_ret (pe_join pe_str (pe_lc (own := [("_law_k", 2)]) rfl sc_law_string.nd (pi_range1 rfl (T.free 46) (pa_cons (pe_o (ok_law_choice T) (T.glo 22) (b_law_choice) gd_false (hr.mono (by omega)) rfl pass0 (pa_cons (pv 0) (pa_cons (pe_lst (pa_cons pe_int (pa_cons pe_int (pa_cons pe_int (pa_cons pe_int (pa_cons pe_int pa_nil)))))) pa_nil))) pa_nil)) (blkOk_by (own := [("_law_k", 2)]) (N := N_law_string) (sc := defScope s_law_string) (by decide +kernel)) (fun _ _ _ _ _ => (pg_name (i := 2) sc_law_string.nd rfl (Or.inl rfl))) (fun _ _ _ _ _ => pts_nil) (fun _ _ _ _ _ => (pe_o (ok_law_choiceS T) (T.glo 22) (b_law_choice) gd_false (hr.mono (by omega)) rfl pass0 (pa_cons (pv 0) (pa_cons (pe_o0 (ok_law_signs T) (T.glo 23) (b_law_signs) gd_false (hr.mono (by omega)) rfl pass0) pa_nil))))))))))), ?_⟩
  walk_at "rd"
  refine ⟨by decide, by decide, by decide +kernel, by decide, fun p hp => ?_⟩
  have okl : ([V.str (Str.ofString ""), V.str (Str.ofString " "), V.str (Str.ofString "a"), V.str (Str.ofString "true"), V.str (Str.ofString "false"), V.str (Str.ofString "empty"), V.str (Str.ofString "0"), V.str (Str.ofString "-1"), V.str (Str.ofString "(none int)"), V.str (Str.ofString "a b"), V.str (Str.ofString "\""), V.str (Str.ofString "\\"), V.str (Str.ofString "\\n"), V.str (repS (Str.ofString "z") (Int.toNat 60)), V.str (Str.ofString "None")]).all okzB = true := by decide +kernel
  have ne0 : ([V.str (Str.ofString ""), V.str (Str.ofString " "), V.str (Str.ofString "a"), V.str (Str.ofString "true"), V.str (Str.ofString "false"), V.str (Str.ofString "empty"), V.str (Str.ofString "0"), V.str (Str.ofString "-1"), V.str (Str.ofString "(none int)"), V.str (Str.ofString "a b"), V.str (Str.ofString "\""), V.str (Str.ofString "\\"), V.str (Str.ofString "\\n"), V.str (repS (Str.ofString "z") (Int.toNat 60)), V.str (Str.ofString "None")]).length = 15 := rfl
  generalize [V.str (Str.ofString ""), V.str (Str.ofString " "), V.str (Str.ofString "a"), V.str (Str.ofString "true"), V.str (Str.ofString "false"), V.str (Str.ofString "empty"), V.str (Str.ofString "0"), V.str (Str.ofString "-1"), V.str (Str.ofString "(none int)"), V.str (Str.ofString "a b"), V.str (Str.ofString "\""), V.str (Str.ofString "\\"), V.str (Str.ofString "\\n"), V.str (repS (Str.ofString "z") (Int.toNat 60)), V.str (Str.ofString "None")] = xs at okl ne0 ⊢
  have hpr := hR.ne hp
  refine drawN (hR.ex (Ex.new hp)) (by decide) (by decide) fun n H1 hn d1 => ⟨rfl, ?_⟩
  have D1 : Dr r H H1 := (Dr.new hR hp).trans d1
  refine ite2 (fun h1 => ?_) (fun h1 => ?_)
  · refine ⟨r, p, xs, rfl, d1.rg, hpr, SqL.of (d1.get hpr upd_same), (fun q => by rw [q] at ne0; cases ne0), by omega, fun v H2 hv d2 => ?_⟩
    obtain ⟨z, rfl, hz⟩ := okzs okl hv
    exact hQ _ _ hz (D1.trans d2)
  · refine ⟨⟨_, rfl⟩, by decide, fun p1 hp1 => chooseI 1 60 d1.rg hp1 (by decide +kernel) nofun (by decide) fun j H2 j0 j1 d2 => ⟨_, rfl, by omega, by omega, ?_⟩⟩
    refine lc_dr walk_range d2.rg (fun _ _ => trivial) (by omega) (fun _ _ _ y => ∃ z : Str, y = .str z ∧ ∃ c ∈ cs sgn, z = ⟨#[c]⟩) (fun _ _ _ _ _ _ e => e) ?_ ?_
    · rintro D i x H3 H4 hi hD hD2 d ⟨rfl, rfl⟩ Qn k
      walk_at "rd"
      refine ⟨rfl, _, rfl, rfl, r, _, rfl, d.rg, by decide +kernel, by decide +kernel, fun c H5 hc d5 => k _ _ d5 ⟨_, rfl, c, hc, rfl⟩⟩
    · intro D ys H3 hD d hy hl he
      obtain ⟨zs, rfl, hz⟩ := strs_of fun i y q => he i y q
      obtain ⟨h1, h2, h3⟩ := ones_sum hz
      rw [List.length_map] at hl
      have e : (Str.ofString "").length = 0 := by decide +kernel
      have all : ∀ c ∈ cs sgn, c < 128 ∧ c ≠ 39 := by decide +kernel
      refine ⟨D, rfl, zs, Or.inl (SqL.of hy), by rw [h1, e]; omega, hQ _ _ ⟨⟨?_, fun c hc => ?_⟩, fun hc => ?_⟩ ((D1.trans d2).trans d)⟩
      · rw [cs_join0, h2]; omega
      · rw [cs_join0] at hc
        exact (all c (h3 c hc)).1
      · rw [cs_join0] at hc
        exact (all 39 (h3 39 hc)).2 rfl
theorem ok_law_any_value (T : Txt P K mg) : Fo false P w K mg base CX0 5 d_law_any_value ["_law_rng_here"] spAny := by
  obtain ⟨fd, F⟩ := T.dfn 12 (d := d_law_any_value)
  refine ⟨fd, Fq.mk' F sc_law_any_value (fun vs H Q E h => ?_) (fun cdv A outer s H vs Q E hg hr h => ?_), F⟩
  · obtain ⟨r, rfl, _⟩ := h
    rfl
  obtain ⟨r, rfl, hR, hQ⟩ := h
  refine ⟨_, (PSs.nox (pss_cons (ps_set (i := 1) sc_law_any_value.nd rfl (Or.inl rfl) (pe_o (ok_law_draw T) (T.glo 21) (b_law_draw) gd_false (hr.mono (by omega)) rfl pass0 (pa_cons (pv 0) (pa_cons pe_int pa_nil))))
      (pss_cons (ps_if (pt_cmpR op_lt (pv 1) pe_int (nomark _)) (pss_one (ps_ret (pe_o (ok_law_number T) (T.glo 25) (b_law_number) gd_false (hr.mono (by omega)) rfl pass0 (pa_cons (pv 0) pa_nil)))) pss_nil)
      (pss_one (ps_ret (pe_ifExp (pt_cmpR op_lt (pv 1) pe_int (nomark _)) (pe_o (ok_law_string T) (T.glo 26) (b_law_string) gd_false (hr.mono (by omega)) rfl pass0 (pa_cons (pv 0) pa_nil)) (pe_ix ix_list (pe_lst (pa_cons pe_bl (pa_cons pe_bl (pa_cons pe_non pa_nil)))) (pe_o (ok_law_draw T) (T.glo 21) (b_law_draw) gd_false (hr.mono (by omega)) rfl pass0 (pa_cons (pv 0) (pa_cons pe_int pa_nil))) (fun _ _ => rfl)))))))), ?_⟩
  walk_at "rd"
  refine drawN hR (by decide) (by decide) fun n H1 hn d1 => ⟨_, rfl, ite2 (fun h1 => ?_) (fun h1 => ⟨_, rfl, ite2 (fun h2 => ?_) (fun h2 => ?_)⟩)⟩
  · exact ⟨r, rfl, d1.rg, fun i H2 hi d2 => hQ _ _ hi (d1.trans d2)⟩
  · exact ⟨r, rfl, d1.rg, fun i H2 hi d2 => hQ _ _ hi (d1.trans d2)⟩
  · refine ⟨by decide, fun p hp => drawN (d1.rg.ex (Ex.new hp)) (by decide) (by decide) fun m H2 hm d2 => ?_⟩
    have d2' : Dr r H H2 := (d1.ex (Ex.new hp)).trans d2
    have pick : ∃ v, Gv v ∧ atI [V.bl true, V.bl false, V.non] (m : Int) = some v := by
      have : m = 0 ∨ m = 1 ∨ m = 2 := by omega
      rcases this with q | q | q
      · exact ⟨.bl true, trivial, by rw [q]; rfl⟩
      · exact ⟨.bl false, trivial, by rw [q]; rfl⟩
      · exact ⟨.non, trivial, by rw [q]; rfl⟩
    obtain ⟨v, hv, pv⟩ := pick
    exact ⟨_, _, rfl, SqL.of (d2.get (d1.rg.ne hp) upd_same), v, pv, hQ _ _ hv d2'⟩
theorem ok_law_spoilt (T : Txt P K mg) : Fo false P w K mg base CX0 3 d_law_spoilt ["_law_rng_here", "_law_text_here"] spSpoilt := by
  obtain ⟨fd, F⟩ := T.dfn 17 (d := d_law_spoilt)
  refine ⟨fd, Fq.mk' F sc_law_spoilt (fun vs H Q E h => ?_) (fun cdv A outer s H vs Q E hg hr h => ?_), F⟩
  · obtain ⟨r, z, rfl, _⟩ := h
    rfl
  obtain ⟨r, z, rfl, hz, hR, hQ⟩ := h
  refine ⟨_, (PSs.nox (pss_cons (ps_for PassesOwn.never rfl (pi_range1 rfl (T.free 46) (pa_cons (pe_o (ok_law_choice T) (T.glo 22) (b_law_choice) gd_false (hr.mono (by omega)) rfl pass0 (pa_cons (pv 0) (pa_cons (pe_lst (pa_cons pe_int (pa_cons pe_int (pa_cons pe_int (pa_cons pe_int pa_nil))))) pa_nil))) pa_nil)) (pg_name (i := 2) sc_law_spoilt.nd rfl (Or.inl rfl)) (pss_cons (ps_par (i := 3) (j := 4) (by rfl) sc_law_spoilt.nd rfl rfl (by decide) rfl rfl (pa_cons (pe_o (ok_law_draw T) (T.glo 21) (b_law_draw) gd_false (hr.mono (by omega)) rfl pass0 (pa_cons (pv 0) (pa_cons (pe_op op_add (pe_callB call_len_str rfl (T.free 51) (by decide +kernel) (pa_cons (pv 1) pa_nil)) pe_int) pa_nil))) (pa_cons (pe_o (ok_law_draw T) (T.glo 21) (b_law_draw) gd_false (hr.mono (by omega)) rfl pass0 (pa_cons (pv 0) (pa_cons pe_int pa_nil))) pa_nil)) (by rfl))
      (pss_one (ps_if (pt_cmpR op_eq (pv 4) pe_int (nomark _)) (pss_one (ps_set (i := 1) sc_law_spoilt.nd rfl (Or.inl rfl) (pe_op op_add_str (pe_slice sl_str (pv 1) po_none (po_some (pv 3))) (pe_slice sl_str (pv 1) (po_some (pe_op op_add (pv 3) pe_int)) po_none)))) (pss_one (ps_if (pt_cmpR op_lt (pv 4) pe_int (nomark _)) (pss_one (ps_set (i := 1) sc_law_spoilt.nd rfl (Or.inl rfl) (pe_op op_add_str (pe_op op_add_str (pe_slice sl_str (pv 1) po_none (po_some (pv 3))) (pe_o (ok_law_choiceS T) (T.glo 22) (b_law_choice) gd_false (hr.mono (by omega)) rfl pass0 (pa_cons (pv 0) (pa_cons pe_str pa_nil)))) (pe_slice sl_str (pv 1) (po_some (pe_op op_sub (pe_op op_add (pv 3) (pv 4)) pe_int)) po_none)))) (pss_one (ps_if (pt_cmpR op_eq (pv 4) pe_int (nomark _)) (pss_one (ps_set (i := 1) sc_law_spoilt.nd rfl (Or.inl rfl) (pe_op op_add_str (pe_op op_add_str (pe_slice sl_str (pv 1) po_none (po_some (pv 3))) (pe_slice sl_str (pv 1) (po_some (pv 3)) (po_some (pe_op op_add (pv 3) pe_int)))) (pe_slice sl_str (pv 1) (po_some (pv 3)) po_none)))) (pss_one (ps_if (pt_cmpR op_eq (pv 4) pe_int (nomark _)) (pss_cons (ps_set (i := 5) sc_law_spoilt.nd rfl (Or.inl rfl) (pe_upper (pe_slice sl_str (pv 1) (po_some (pv 3)) (po_some (pe_op op_add (pv 3) pe_int)))))
      (pss_one (ps_set (i := 1) sc_law_spoilt.nd rfl (Or.inl rfl) (pe_op op_add_str (pe_op op_add_str (pe_slice sl_str (pv 1) po_none (po_some (pv 3))) (pv 5)) (pe_slice sl_str (pv 1) (po_some (pe_op op_add (pv 3) pe_int)) po_none))))) (pss_one (ps_set (i := 1) sc_law_spoilt.nd rfl (Or.inl rfl) (pe_op op_add_str (pe_ix ix_str pe_str (pe_o (ok_law_draw T) (T.glo 21) (b_law_draw) gd_false (hr.mono (by omega)) rfl pass0 (pa_cons (pv 0) (pa_cons pe_int pa_nil))) (fun _ _ => rfl)) (pv 1))))))))))))))
      (pss_one (ps_ret (pv 1))))), ?_⟩
  walk_at "rd"
  refine ⟨by decide, fun p hp => chooseI 0 2 hR hp (by decide +kernel) nofun (by decide) fun j H1 j0 j1 d1 => ⟨_, rfl, by omega, by omega, ?_⟩⟩
  refine for_f walk_range (fun i σ H' => ∃ (y : Str) (a b c d : Option V), σ = [some (.ref r), some (.str y), a, b, c, d] ∧ Gn (100 + i) y ∧ Dr r H H') ⟨z, _, _, _, _, rfl, hz, d1⟩ (fun _ _ _ _ _ => trivial) ?_ ?_
  rotate_left
  · rintro σ H2 ⟨y, a, b, c, d, rfl, hy, d2⟩
    walk_at "rd"
    exact hQ _ _ (hy.le (by omega)) d2
  rintro i x σ H2 H3 hi ⟨y, a, b, c, d, rfl, hy, d2⟩ ⟨rfl, rfl⟩
  walk_at "rd"
  have ly := cs_len y
  have hyl : y.length ≤ sizeLine := Nat.le_trans (show y.length ≤ 1000000 by have := hy.1; omega) (by decide)
  refine ⟨hyl, drawN d2.rg (by omega) (by have := hy.1; omega) fun at_ H4 hat d4 => drawN d4.rg (by decide) (by decide) fun way H5 hway d5 => ?_⟩
  have D5 := d2.trans (d4.trans d5)
  have hn : 100 + i ≤ 100000 := by omega
  have mid : Gn 1 (cutS y (some (at_ : Int)) (some ((at_ : Int) + 1))) := ⟨cut_mid y at_, hy.cut _ _⟩
  refine ⟨rfl, ite2 (fun h0 => ?_) (fun h0 => ⟨_, rfl, ite2 (fun h1 => ?_) (fun h1 => ⟨rfl, ite2 (fun h2 => ?_) (fun h2 => ⟨rfl, ite2 (fun h3 => ?_) (fun h3 => ?_)⟩)⟩)⟩)⟩
  · have c := cut_two y at_ (at_ + 1) (by omega)
    have hy1 := hy.1
    refine ⟨_, rfl, hyl, _, rfl, hyl, ?_, ⟨?_, fun d hd => ?_⟩, D5⟩
    · show (cutS y none (some (at_ : Int))).length + (cutS y (some ((at_ + 1 : Nat) : Int)) none).length ≤ sizeLine
      rw [cs_len, cs_len]; exact Nat.le_trans (show _ ≤ 1000000 by omega) (by decide)
    · show (cs (cutS y none (some (at_ : Int)) ++ cutS y (some ((at_ + 1 : Nat) : Int)) none)).length ≤ _
      rw [cs_app_len]; omega
    · rw [cs_app] at hd
      rcases List.mem_append.mp hd with hd | hd
      · exact hy.cut _ _ d hd
      · exact hy.cut _ _ d hd
  · have h0 : ¬ (way : Int) = 0 := by simpa using h0
    refine ⟨_, rfl, hyl, r, _, rfl, d5.rg, by decide +kernel, by decide +kernel, fun c H6 hc d6 => ?_⟩
    have hc' : c < 128 := by
      have all : ∀ c ∈ cs (Str.ofString "0129-+'_ aeTF.()\"x"), c < 128 := by decide +kernel
      exact all c hc
    obtain ⟨g1, g2, g3⟩ := glue (a := at_) (b := at_ + way - 1) hy hn (by omega) (one_gn hc')
    have eb : (at_ : Int) + (way : Int) - 1 = ((at_ + way - 1 : Nat) : Int) := by omega
    refine ⟨_, rfl, g2, _, rfl, _, rfl, hyl, ?_, ?_, D5.trans d6⟩
    · rw [eb]; exact g3
    · rw [eb]; exact g1
  · obtain ⟨g1, g2, g3⟩ := glue (a := at_) (b := at_) hy hn (Nat.le_refl _) mid
    exact ⟨_, rfl, hyl, _, rfl, _, rfl, hyl, g2, _, rfl, hyl, g3, g1, D5⟩
  · obtain ⟨g1, g2, g3⟩ := glue (a := at_) (b := at_ + 1) hy hn (by omega) (upper_gn mid)
    refine ⟨_, rfl, _, rfl, hyl, ⟨_, rfl⟩, ?_, _, rfl, hyl, g2, _, rfl, hyl, g3, g1, D5⟩
    rw [cs_len]
    have := mid.1
    omega
  · refine drawN d5.rg (by decide) (by decide) fun m H6 hm d6 => ⟨_, rfl, by decide +kernel, ?_⟩
    have hm' : m < (cs (Str.ofString "0 -'")).length := Nat.lt_of_lt_of_eq (show m < 4 by omega) (by decide +kernel)
    have all : ∀ c ∈ cs (Str.ofString "0 -'"), c < 128 := by decide +kernel
    have hc := all _ (List.getElem_mem hm')
    have hy1 := hy.1
    refine ⟨(cs (Str.ofString "0 -'"))[m], atI_nat (by rw [List.getElem?_eq_getElem hm']), ?_, ?_, D5.trans d6⟩
    · rw [cs_len y]
      exact Nat.le_trans (show 1 + (cs y).length ≤ 1000000 by omega) (by decide)
    · have := (one_gn hc).app hy
      rw [Nat.add_comm 1] at this
      exact this
theorem ok_law_near (T : Txt P K mg) : Fo false P w K mg base CX0 3 d_law_near ["_law_rng_here"] (spS 5000) := by
  obtain ⟨fd, F⟩ := T.dfn 18 (d := d_law_near)
  refine ⟨fd, Fq.mk' F sc_law_near (fun vs H Q E h => ?_) (fun cdv A outer s H vs Q E hg hr h => ?_), F⟩
  · obtain ⟨r, rfl, _⟩ := h
    rfl
  obtain ⟨r, rfl, hR, hQ⟩ := h
  refine ⟨_, (PSs.nox (pss_cons (ps_set (i := 1) sc_law_near.nd rfl (Or.inl rfl) (pe_lst (pa_cons pe_str (pa_cons pe_str (pa_cons pe_str (pa_cons pe_str (pa_cons pe_str (pa_cons pe_str (pa_cons pe_str (pa_cons pe_str (pa_cons pe_str (pa_cons pe_str (pa_cons pe_str (pa_cons pe_str (pa_cons pe_str (pa_cons pe_str (pa_cons pe_str (pa_cons pe_str pa_nil))))))))))))))))))
      (pss_cons (ps_set (i := 1) sc_law_near.nd rfl (Or.inl rfl) (pe_op op_cat (pv 1) (pe_lst (pa_cons pe_str (pa_cons pe_str (pa_cons pe_str (pa_cons pe_str (pa_cons pe_str (pa_cons pe_str (pa_cons pe_str (pa_cons pe_str (pa_cons pe_str (pa_cons pe_str (pa_cons pe_str (pa_cons pe_str (pa_cons pe_str pa_nil))))))))))))))))
      (pss_cons (ps_set (i := 1) sc_law_near.nd rfl (Or.inl rfl) (pe_op op_cat (pv 1) (pe_lst (pa_cons pe_str (pa_cons pe_str pa_nil)))))
      (pss_cons (ps_set (i := 1) sc_law_near.nd rfl (Or.inl rfl) (pe_op op_cat (pv 1) (pe_lst (pa_cons (pe_op Ab.op_repS pe_str pe_int) (pa_cons (pe_op Ab.op_repS pe_str pe_int) (pa_cons (pe_op op_add_str pe_str (pe_op Ab.op_repS pe_str pe_int)) (pa_cons (pe_op op_add_str pe_str (pe_op Ab.op_repS pe_str pe_int)) (pa_cons (pe_op op_add_str pe_str (pe_op Ab.op_repS pe_str pe_int)) (pa_cons (pe_op Ab.op_repS pe_str pe_int) (pa_cons (pe_op op_add_str pe_str (pe_op Ab.op_repS pe_str pe_int)) pa_nil))))))))))
      (pss_one (ps_ret (pe_o (ok_law_choice T) (T.glo 22) (b_law_choice) gd_false (hr.mono (by omega)) rfl pass0 (pa_cons (pv 0) (pa_cons (pe_op op_cat (pv 1) (pe_lst (pa_cons (pe_op op_add_str (pe_op op_add_str pe_str (pe_op Ab.op_repS pe_str pe_int)) pe_str) (pa_cons (pe_op op_add_str (pe_op op_add_str pe_str (pe_op Ab.op_repS pe_str pe_int)) pe_str) (pa_cons pe_str (pa_cons pe_str (pa_cons pe_str (pa_cons pe_str pa_nil)))))))) pa_nil)))))))))), ?_⟩
  walk_at "rd"
  refine ⟨by decide, fun p0 hp0 => ?_⟩
  have g0 : GnL 5000 [V.str (Str.ofString ""), V.str (Str.ofString "-"), V.str (Str.ofString "-0"), V.str (Str.ofString "00"), V.str (Str.ofString "01"), V.str (Str.ofString "-01"), V.str (Str.ofString "+1"), V.str (Str.ofString "1_000"), V.str (Str.ofString "0x1"), V.str (Str.ofString "1.0"), V.str (Str.ofString "1e3"), V.str (Str.ofString " 1"), V.str (Str.ofString "1 "), V.str (Str.ofString "- 1"), V.str (Str.ofString "--1"), V.str (Str.ofString "None")] := fun v hv => strs_gn (b := 5000) (by decide +kernel) hv
  have n0 : ([V.str (Str.ofString ""), V.str (Str.ofString "-"), V.str (Str.ofString "-0"), V.str (Str.ofString "00"), V.str (Str.ofString "01"), V.str (Str.ofString "-01"), V.str (Str.ofString "+1"), V.str (Str.ofString "1_000"), V.str (Str.ofString "0x1"), V.str (Str.ofString "1.0"), V.str (Str.ofString "1e3"), V.str (Str.ofString " 1"), V.str (Str.ofString "1 "), V.str (Str.ofString "- 1"), V.str (Str.ofString "--1"), V.str (Str.ofString "None")]).length = 16 := rfl
  generalize [V.str (Str.ofString ""), V.str (Str.ofString "-"), V.str (Str.ofString "-0"), V.str (Str.ofString "00"), V.str (Str.ofString "01"), V.str (Str.ofString "-01"), V.str (Str.ofString "+1"), V.str (Str.ofString "1_000"), V.str (Str.ofString "0x1"), V.str (Str.ofString "1.0"), V.str (Str.ofString "1e3"), V.str (Str.ofString " 1"), V.str (Str.ofString "1 "), V.str (Str.ofString "- 1"), V.str (Str.ofString "--1"), V.str (Str.ofString "None")] = l0 at g0 n0 ⊢
  have q0 : upd H p0 (HO.lst l0) p0 = some (.lst l0) := upd_same
  have D0 : Dr r H (upd H p0 (HO.lst l0)) := Dr.new hR hp0
  generalize upd H p0 (HO.lst l0) = G0 at q0 D0 ⊢
  refine ⟨by decide, fun a1 ha1 => ?_⟩
  have g1 : GnL 5000 [V.str (Str.ofString "True"), V.str (Str.ofString "FALSE"), V.str (Str.ofString "truth"), V.str (Str.ofString "Empty"), V.str (Str.ofString "'"), V.str (Str.ofString "''"), V.str (Str.ofString "'''"), V.str (Str.ofString "'a"), V.str (Str.ofString "a'"), V.str (Str.ofString "a"), V.str (Str.ofString "'a' "), V.str (Str.ofString " 'a'"), V.str (Str.ofString "'a''b'")] := fun v hv => strs_gn (b := 5000) (by decide +kernel) hv
  have m1 : ([V.str (Str.ofString "True"), V.str (Str.ofString "FALSE"), V.str (Str.ofString "truth"), V.str (Str.ofString "Empty"), V.str (Str.ofString "'"), V.str (Str.ofString "''"), V.str (Str.ofString "'''"), V.str (Str.ofString "'a"), V.str (Str.ofString "a'"), V.str (Str.ofString "a"), V.str (Str.ofString "'a' "), V.str (Str.ofString " 'a'"), V.str (Str.ofString "'a''b'")]).length = 13 := rfl
  generalize [V.str (Str.ofString "True"), V.str (Str.ofString "FALSE"), V.str (Str.ofString "truth"), V.str (Str.ofString "Empty"), V.str (Str.ofString "'"), V.str (Str.ofString "''"), V.str (Str.ofString "'''"), V.str (Str.ofString "'a"), V.str (Str.ofString "a'"), V.str (Str.ofString "a"), V.str (Str.ofString "'a' "), V.str (Str.ofString " 'a'"), V.str (Str.ofString "'a''b'")] = k1 at g1 m1 ⊢
  refine ⟨_, (upd_ne (ne_of_none q0 ha1)).trans q0, _, upd_same, by rw [n0, m1]; decide, fun p1 hp1 => ?_⟩
  have q1 : upd (upd G0 a1 (HO.lst k1)) p1 (HO.lst (l0 ++ k1)) p1 = some (.lst (l0 ++ k1)) := upd_same
  have e1 := D0.ex (Ex.new (o := HO.lst k1) ha1)
  have r1 := e1.rg.ne hp1
  have D1 : Dr r H (upd (upd G0 a1 (HO.lst k1)) p1 (HO.lst (l0 ++ k1))) := e1.ex (Ex.new hp1)
  have g1 := g0.app g1
  have n1 : (l0 ++ k1).length = 29 := by rw [List.length_append, n0, m1]
  generalize upd (upd G0 a1 (HO.lst k1)) p1 (HO.lst (l0 ++ k1)) = G1 at q1 D1 ⊢
  generalize l0 ++ k1 = l1 at q1 g1 n1
  clear e1 ha1 hp1
  refine ⟨by decide, fun a2 ha2 => ?_⟩
  have g2 : GnL 5000 [V.str (Str.ofString "none"), V.str (Str.ofString "\"a\"")] := fun v hv => strs_gn (b := 5000) (by decide +kernel) hv
  have m2 : ([V.str (Str.ofString "none"), V.str (Str.ofString "\"a\"")]).length = 2 := rfl
  generalize [V.str (Str.ofString "none"), V.str (Str.ofString "\"a\"")] = k2 at g2 m2 ⊢
  refine ⟨_, (upd_ne (ne_of_none q1 ha2)).trans q1, _, upd_same, by rw [n1, m2]; decide, fun p2 hp2 => ?_⟩
  have q2 : upd (upd G1 a2 (HO.lst k2)) p2 (HO.lst (l1 ++ k2)) p2 = some (.lst (l1 ++ k2)) := upd_same
  have e2 := D1.ex (Ex.new (o := HO.lst k2) ha2)
  have r2 := e2.rg.ne hp2
  have D2 : Dr r H (upd (upd G1 a2 (HO.lst k2)) p2 (HO.lst (l1 ++ k2))) := e2.ex (Ex.new hp2)
  have g2 := g1.app g2
  have n2 : (l1 ++ k2).length = 31 := by rw [List.length_append, n1, m2]
  generalize upd (upd G1 a2 (HO.lst k2)) p2 (HO.lst (l1 ++ k2)) = G2 at q2 D2 ⊢
  generalize l1 ++ k2 = l2 at q2 g2 n2
  clear e2 ha2 hp2
  refine ⟨by decide, by decide, by decide +kernel, by decide, by decide, by decide +kernel, by decide, by decide, by decide +kernel, by (simp only [strLen_append, repS_sz]; exact Nat.le_trans (show _ ≤ 10000 by decide +kernel) (by decide)), by decide, by decide, by decide +kernel, by (simp only [strLen_append, repS_sz]; exact Nat.le_trans (show _ ≤ 10000 by decide +kernel) (by decide)), by decide, by decide, by decide +kernel, by (simp only [strLen_append, repS_sz]; exact Nat.le_trans (show _ ≤ 10000 by decide +kernel) (by decide)), by decide, by decide, by decide +kernel, by decide, by decide, by decide +kernel, by (simp only [strLen_append, repS_sz]; exact Nat.le_trans (show _ ≤ 10000 by decide +kernel) (by decide)), by decide, fun a3 ha3 => ?_⟩
  have g3 : GnL 5000 [V.str (repS (Str.ofString "9") (Int.toNat 30)), V.str (repS (Str.ofString "9") (Int.toNat 31)), V.str ((Str.ofString "-") ++ (repS (Str.ofString "9") (Int.toNat 30))), V.str ((Str.ofString "1") ++ (repS (Str.ofString "0") (Int.toNat 30))), V.str ((Str.ofString "-1") ++ (repS (Str.ofString "0") (Int.toNat 30))), V.str (repS (Str.ofString "9") (Int.toNat 4400)), V.str ((Str.ofString "-") ++ (repS (Str.ofString "7") (Int.toNat 4400)))] := by
    intro v hv
    simp only [List.mem_cons, List.not_mem_nil, or_false] at hv
    rcases hv with rfl | rfl | rfl | rfl | rfl | rfl | rfl
    · exact ⟨_, rfl, (repS_gn 30 (show Gn 1 _ by decide +kernel)).le (by decide)⟩
    · exact ⟨_, rfl, (repS_gn 31 (show Gn 1 _ by decide +kernel)).le (by decide)⟩
    · exact ⟨_, rfl, ((show Gn 1 _ by decide +kernel).app (repS_gn 30 (show Gn 1 _ by decide +kernel))).le (by decide)⟩
    · exact ⟨_, rfl, ((show Gn 1 _ by decide +kernel).app (repS_gn 30 (show Gn 1 _ by decide +kernel))).le (by decide)⟩
    · exact ⟨_, rfl, ((show Gn 2 _ by decide +kernel).app (repS_gn 30 (show Gn 1 _ by decide +kernel))).le (by decide)⟩
    · exact ⟨_, rfl, (repS_gn 4400 (show Gn 1 _ by decide +kernel)).le (by decide)⟩
    · exact ⟨_, rfl, ((show Gn 1 _ by decide +kernel).app (repS_gn 4400 (show Gn 1 _ by decide +kernel))).le (by decide)⟩
  have m3 : ([V.str (repS (Str.ofString "9") (Int.toNat 30)), V.str (repS (Str.ofString "9") (Int.toNat 31)), V.str ((Str.ofString "-") ++ (repS (Str.ofString "9") (Int.toNat 30))), V.str ((Str.ofString "1") ++ (repS (Str.ofString "0") (Int.toNat 30))), V.str ((Str.ofString "-1") ++ (repS (Str.ofString "0") (Int.toNat 30))), V.str (repS (Str.ofString "9") (Int.toNat 4400)), V.str ((Str.ofString "-") ++ (repS (Str.ofString "7") (Int.toNat 4400)))]).length = 7 := rfl
  generalize [V.str (repS (Str.ofString "9") (Int.toNat 30)), V.str (repS (Str.ofString "9") (Int.toNat 31)), V.str ((Str.ofString "-") ++ (repS (Str.ofString "9") (Int.toNat 30))), V.str ((Str.ofString "1") ++ (repS (Str.ofString "0") (Int.toNat 30))), V.str ((Str.ofString "-1") ++ (repS (Str.ofString "0") (Int.toNat 30))), V.str (repS (Str.ofString "9") (Int.toNat 4400)), V.str ((Str.ofString "-") ++ (repS (Str.ofString "7") (Int.toNat 4400)))] = k3 at g3 m3 ⊢
  refine ⟨_, (upd_ne (ne_of_none q2 ha3)).trans q2, _, upd_same, by rw [n2, m3]; decide, fun p3 hp3 => ?_⟩
  have q3 : upd (upd G2 a3 (HO.lst k3)) p3 (HO.lst (l2 ++ k3)) p3 = some (.lst (l2 ++ k3)) := upd_same
  have e3 := D2.ex (Ex.new (o := HO.lst k3) ha3)
  have r3 := e3.rg.ne hp3
  have D3 : Dr r H (upd (upd G2 a3 (HO.lst k3)) p3 (HO.lst (l2 ++ k3))) := e3.ex (Ex.new hp3)
  have g3 := g2.app g3
  have n3 : (l2 ++ k3).length = 38 := by rw [List.length_append, n2, m3]
  generalize upd (upd G2 a3 (HO.lst k3)) p3 (HO.lst (l2 ++ k3)) = G3 at q3 D3 ⊢
  generalize l2 ++ k3 = l3 at q3 g3 n3
  clear e3 ha3 hp3
  refine ⟨by decide, by decide, by decide +kernel, by (simp only [strLen_append, repS_sz]; exact Nat.le_trans (show _ ≤ 10000 by decide +kernel) (by decide)), by (simp only [strLen_append, repS_sz]; exact Nat.le_trans (show _ ≤ 10000 by decide +kernel) (by decide)), by decide, by decide, by decide +kernel, by (simp only [strLen_append, repS_sz]; exact Nat.le_trans (show _ ≤ 10000 by decide +kernel) (by decide)), by (simp only [strLen_append, repS_sz]; exact Nat.le_trans (show _ ≤ 10000 by decide +kernel) (by decide)), by decide, fun a4 ha4 => ?_⟩
  have g4 : GnL 5000 [V.str (((Str.ofString "'") ++ (repS (Str.ofString "z") (Int.toNat 60))) ++ (Str.ofString "'")), V.str (((Str.ofString "'") ++ (repS (Str.ofString "z") (Int.toNat 61))) ++ (Str.ofString "'")), V.str (Str.ofString "()"), V.str (Str.ofString "(none int)"), V.str (Str.ofString "true "), V.str (Str.ofString "tru")] := by
    intro v hv
    simp only [List.mem_cons, List.not_mem_nil, or_false] at hv
    rcases hv with rfl | rfl | rfl | rfl | rfl | rfl
    · exact ⟨_, rfl, (((show Gn 1 _ by decide +kernel).app (repS_gn 60 (show Gn 1 _ by decide +kernel))).app (show Gn 1 _ by decide +kernel)).le (by decide)⟩
    · exact ⟨_, rfl, (((show Gn 1 _ by decide +kernel).app (repS_gn 61 (show Gn 1 _ by decide +kernel))).app (show Gn 1 _ by decide +kernel)).le (by decide)⟩
    · exact ⟨_, rfl, (show Gn 2 _ by decide +kernel).le (by decide)⟩
    · exact ⟨_, rfl, (show Gn 10 _ by decide +kernel).le (by decide)⟩
    · exact ⟨_, rfl, (show Gn 5 _ by decide +kernel).le (by decide)⟩
    · exact ⟨_, rfl, (show Gn 3 _ by decide +kernel).le (by decide)⟩
  have m4 : ([V.str (((Str.ofString "'") ++ (repS (Str.ofString "z") (Int.toNat 60))) ++ (Str.ofString "'")), V.str (((Str.ofString "'") ++ (repS (Str.ofString "z") (Int.toNat 61))) ++ (Str.ofString "'")), V.str (Str.ofString "()"), V.str (Str.ofString "(none int)"), V.str (Str.ofString "true "), V.str (Str.ofString "tru")]).length = 6 := rfl
  generalize [V.str (((Str.ofString "'") ++ (repS (Str.ofString "z") (Int.toNat 60))) ++ (Str.ofString "'")), V.str (((Str.ofString "'") ++ (repS (Str.ofString "z") (Int.toNat 61))) ++ (Str.ofString "'")), V.str (Str.ofString "()"), V.str (Str.ofString "(none int)"), V.str (Str.ofString "true "), V.str (Str.ofString "tru")] = k4 at g4 m4 ⊢
  refine ⟨_, (upd_ne (ne_of_none q3 ha4)).trans q3, _, upd_same, by rw [n3, m4]; decide, fun p4 hp4 => ?_⟩
  have q4 : upd (upd G3 a4 (HO.lst k4)) p4 (HO.lst (l3 ++ k4)) p4 = some (.lst (l3 ++ k4)) := upd_same
  have e4 := D3.ex (Ex.new (o := HO.lst k4) ha4)
  have r4 := e4.rg.ne hp4
  have D4 : Dr r H (upd (upd G3 a4 (HO.lst k4)) p4 (HO.lst (l3 ++ k4))) := e4.ex (Ex.new hp4)
  have g4 := g3.app g4
  have n4 : (l3 ++ k4).length = 44 := by rw [List.length_append, n3, m4]
  generalize upd (upd G3 a4 (HO.lst k4)) p4 (HO.lst (l3 ++ k4)) = G4 at q4 D4 ⊢
  generalize l3 ++ k4 = l4 at q4 g4 n4
  clear e4 ha4 hp4
  refine ⟨r, p4, l4, rfl, D4.rg, r4, SqL.of q4, (fun q => by rw [q] at n4; cases n4), by omega, fun v H' hv d => ?_⟩
  obtain ⟨z, rfl, hz⟩ := g4 v hv
  exact hQ _ _ hz (D4.trans d)
end
end K14

set_option Elab.async false
set_option linter.all false
set_option maxRecDepth 100000
set_option maxHeartbeats 4000000
namespace K14
open PySem PySem.Spec PyProof.Rows L2 Ab
local macro_rules | `(tactic| walk_at "rd") => `(tactic| simp only [start_eq, List.map_cons, List.map_nil, List.length_cons, List.length_nil, List.replicate_succ, List.replicate_zero, List.cons_append, List.nil_append, Nat.reduceSub, Nat.reduceAdd, Nat.zero_add,
  tSeq, tAsg, tIf, tTest, tOp, tVar, tCB, tCons, tNil, tC, gName, tRet, tLst, tTup, tIfS, tPar3, tDrop, tB, tAnd, tOr, tNot, tAndV, tOrV, tNotV, tUn, tNext, tNever, gTup, gSub, gCons, gNil, rSetL, tPar, rCat, rRep, rAppend, rAll, rAny, tM0, tM1, tBM, tBM0, tDisp, tPairs, rIn, tChain, tPart, tFld, tFmt, tJs, rRepS, tSl, tNoPart, rSlS, tAug, ipI, tDGet, rSetD, tOX, tMkX, rSimE, rSimN, tDGet2, tFor_eq, tLc_eq, iRng1, iRng2, iList, iTup, iStr, rI0, rI, rU, rIxL, rIxT, rIxS, tO, gPos, StX.tMakeR, tDNewK, sFld, ClX.tCVal, rSortedS, rEq, rNe, scal_ii, scal_ss, scal_bb, scal_nn, scal_is, scal_si, cx_K, cx_Kn,
  V.int.injEq, V.ref.injEq, V.str.injEq, V.bl.injEq, List.cons.injEq, Bool.not_eq_true', decide_eq_true_eq, decide_eq_false_iff_not, if_true, if_false, Bool.not_true, Bool.not_false, Bool.false_eq_true, not_true_eq_false, not_false_eq_true, and_assoc, and_true, true_and, exists_eq_left', exists_eq_left, exists_and_left, reduceCtorEq, false_and, and_false, exists_false, or_false, false_or,
  List.getElem?_cons_zero, List.getElem?_cons_succ, Option.some.injEq, List.set_cons_zero, List.set_cons_succ])
local macro_rules | `(tactic| walk_at "rk") => `(tactic| simp only [start_eq, List.map_cons, List.map_nil, List.length_cons, List.length_nil, List.replicate_succ, List.replicate_zero, List.cons_append, List.nil_append, Nat.reduceSub, Nat.reduceAdd, Nat.zero_add,
  tSeq, tAsg, tTest, tOp, tVar, tCB, tCons, tNil, tC, gName, tRet, tLst, tTup, tIfS, tPar3, tDrop, tB, tAnd, tOr, tNot, tNotV, tUn, tNext, tNever, gTup, gSub, gCons, gNil, rSetL, tPar, rCat, rRep, rAppend, rAll, rAny, tM0, tM1, tBM, tBM0, tDisp, tPairs, rIn, tChain, tPart, tFld, tFmt, tJs, rRepS, tSl, tNoPart, rSlS, tAug, ipI, tDGet, rSetD, tOX, tMkX, rSimE, rSimN, tDGet2, tFor_eq, tLc_eq, iRng1, iRng2, iList, iTup, iStr, rI0, rI, rU, rIxL, rIxT, rIxS, tO, gPos, StX.tMakeR, tDNewK, sFld, ClX.tCVal, rSortedS, rEq, rNe, scal_ii, scal_ss, scal_bb, scal_nn, scal_is, scal_si, cx_K, cx_Kn,
  V.int.injEq, V.ref.injEq, V.str.injEq, V.bl.injEq, List.cons.injEq, Bool.not_eq_true', decide_eq_true_eq, decide_eq_false_iff_not, if_true, if_false, Bool.not_true, Bool.not_false, Bool.false_eq_true, not_true_eq_false, not_false_eq_true, and_assoc, and_true, true_and, exists_eq_left', exists_eq_left, exists_and_left, reduceCtorEq, false_and, and_false, exists_false, or_false, false_or,
  List.getElem?_cons_zero, List.getElem?_cons_succ, Option.some.injEq, List.set_cons_zero, List.set_cons_succ])
/-- what is no value, whatever is drawn behind it -/
def OddV (K : PySem.W.Frag) (r : Addr) (H : Hp) (v : V) : Prop := isVal v = false ∧ (∀ i, v = .int i → i.natAbs < 10 ^ 42) ∧ (∀ z, v = .str z → Gn 5000 z) ∧
  ∃ d : PyData, d.showable = true ∧ d.depth ≤ 60 ∧ d.shown.length ≤ sizeLine ∧ ∀ H', Fx r H H' → Ty K H' v ∧ Rdt K H' v d
def shB (d : PyData) : Bool := d.showable && (decide (d.depth ≤ 60) && decide (d.shown.length ≤ 10000))
theorem shB_ok {d : PyData} (h : shB d = true) : d.showable = true ∧ d.depth ≤ 60 ∧ d.shown.length ≤ sizeLine := by
  obtain ⟨h1, h2⟩ := He.ba h
  obtain ⟨h2, h3⟩ := He.ba h2
  exact ⟨h1, of_decide_eq_true h2, Nat.le_trans (of_decide_eq_true h3) (by decide)⟩
section
variable {K : PySem.W.Frag} {r p : Addr} {H : Hp}
theorem odd_lst {xs : List V} (h : H p = some (.lst xs)) (n : p ≠ r) (hf : xs.all flatV = true) (hs : shB (.list (xs.map fD)) = true) : OddV K r H (.ref p) :=
  ⟨rfl, nofun, nofun, _, (shB_ok hs).1, (shB_ok hs).2.1, (shB_ok hs).2.2, fun H' f => ⟨Ty.lst (f _ _ n h), .inl (.lst (SqL.of (f _ _ n h)) (fD_all fun x hx => List.all_eq_true.mp hf x hx))⟩⟩
theorem odd_tup {xs : List V} (h : H p = some (.tup xs)) (n : p ≠ r) (hf : xs.all flatV = true) (hs : shB (.tuple (xs.map fD)) = true) : OddV K r H (.ref p) :=
  ⟨rfl, nofun, nofun, _, (shB_ok hs).1, (shB_ok hs).2.1, (shB_ok hs).2.2, fun H' f => ⟨Ty.tup (f _ _ n h), .inl (.tup (SqT.of (f _ _ n h)) (fD_all fun x hx => List.all_eq_true.mp hf x hx))⟩⟩
theorem odd_dK {kvs : List (Key × V)} (h : H p = some (.dK kvs)) (n : p ≠ r) (hf : (kvs.all fun q => flatV q.2) = true) (hs : shB (.dict (kvs.map fun q => (fD (kV q.1), fD q.2))) = true) : OddV K r H (.ref p) :=
  ⟨rfl, nofun, nofun, _, (shB_ok hs).1, (shB_ok hs).2.1, (shB_ok hs).2.2, fun H' f => ⟨Ty.dK (f _ _ n h), .inr ⟨p, kvs, rfl, f _ _ n h, fun x hx => List.all_eq_true.mp hf x hx, rfl⟩⟩⟩
theorem odd_int {i : Int} (h : isVal (.int i) = false) (hi : i.natAbs < 10 ^ 42) : OddV K r H (.int i) :=
  ⟨h, fun j e => (by cases e; exact hi), nofun, .int i, decide_eq_true (log2_small (Nat.lt_trans hi (by decide +kernel))), (show 0 ≤ 60 by decide), Nat.le_trans (int_len hi) (by decide), fun H' _ => ⟨trivial, .inl (.int i)⟩⟩
theorem odd_str {z : Str} (h : isVal (.str z) = false) (hz : Gn 100 z) : OddV K r H (.str z) :=
  ⟨h, nofun, fun y e => (by cases e; exact hz.le (by decide)), .str z, rfl, (show 0 ≤ 60 by decide), Nat.le_trans (gn_repr hz) (by decide), fun H' _ => ⟨Nat.le_trans hz.1 (by decide), .inl (.str z)⟩⟩
end
theorem vtext_gn {v : V} (h : Gv v) : Gn 100 (vtext v) := by
  cases v with
  | non => decide +kernel
  | bl b => cases b <;> decide +kernel
  | int i =>
    have hi : i.natAbs < 10 ^ 30 := h
    refine ⟨?_, fun c hc => by have := int_signs i c hc; omega⟩
    have e := int_text_length_le10 (k := 30) (by decide) hi
    rw [← cs_len]
    show (Str.ofString (toString i)).length ≤ 100
    rw [PySem.ofString_length]
    clear hi h
    omega
  | str z =>
    have hz : Okz z := h
    have h1 : Gn 1 (Str.ofString "'") := by decide +kernel
    exact ((h1.app hz.1).app h1).le (by decide)
  | _ => exact h.elim
theorem gv_facts {K : PySem.W.Frag} {v : V} (h : Gv v) : isVal v = true ∧ (∀ i, v = .int i → i.natAbs < 10 ^ 42) ∧ (∀ z, v = .str z → Okz z) ∧ (∀ H, Rep K H v (fD v)) ∧ (∀ H, Ty K H v) ∧ Gn 100 (vtext v) := by
  cases v with
  | non => exact ⟨rfl, nofun, nofun, fun H => ⟨fun _ _ => .inl .non, rfl, by decide, by decide +kernel⟩, fun _ => trivial, vtext_gn h⟩
  | bl b => exact ⟨rfl, nofun, nofun, fun H => ⟨fun _ _ => .inl (.bl b), rfl, (show 0 ≤ 60 by decide), by cases b <;> decide +kernel⟩, fun _ => trivial, vtext_gn h⟩
  | int i =>
    have hi : i.natAbs < 10 ^ 30 := h
    refine ⟨decide_eq_true ?_, fun j e => ?_, nofun, fun H => ⟨fun _ _ => .inl (.int i), decide_eq_true (log2_small (Nat.lt_trans hi (by decide +kernel))), (show 0 ≤ 60 by decide), Nat.le_trans (int_len (Nat.lt_trans hi (by decide))) (by decide)⟩, fun _ => trivial, vtext_gn h⟩
    · split <;> omega
    · cases e
      exact Nat.lt_trans hi (by decide)
  | str z =>
    have hz : Okz z := h
    refine ⟨?_, nofun, fun y e => (by cases e; exact hz), fun H => ⟨fun _ _ => .inl (.str z), rfl, (show 0 ≤ 60 by decide), Nat.le_trans (gn_repr hz.1) (by decide)⟩, fun _ => Nat.le_trans hz.1.1 (by decide), vtext_gn h⟩
    show (decide ((cs z).length ≤ 60) && !decide (39 ∈ cs z)) = true
    rw [decide_eq_true hz.1.1, decide_eq_false hz.2]
    rfl
  | _ => exact h.elim
def spOdd (K : PySem.W.Frag) : Sp := fun vs H Q _ => ∃ r : Addr, vs = [.ref r] ∧ Rng r H ∧ ∀ (v : V) (H' : Hp), OddV K r H' v → Dr r H H' → Q v H'
def spRight : Sp := fun vs H Q _ => ∃ r : Addr, vs = [.ref r] ∧ Rng r H ∧ ∀ H', Dr r H H' → Q (.bl true) H'
def spLaw (K : PySem.W.Frag) : Sp := fun vs H Q _ => ∃ (a : Addr) (ns : List Int), vs = [.ref a] ∧ SqL K H a (ns.map V.int) ∧ ∀ H', Q (.bl true) H'
section
variable {P : Program} {w : World} {K : PySem.W.Frag} {mg : Str → Option Value} {base : Heap}
theorem ok_law_odd (T : Txt P K mg) : Fo false P w K mg base CX0 3 d_law_odd ["_law_rng_here"] (spOdd K) := by
  obtain ⟨fd, F⟩ := T.dfn 23 (d := d_law_odd)
  refine ⟨fd, Fq.mk' F sc_law_odd (fun vs H Q E h => ?_) (fun cdv A outer s H vs Q E hg hr h => ?_), F⟩
  · obtain ⟨r, rfl, _⟩ := h
    rfl
  obtain ⟨r, rfl, hR, hQ⟩ := h
  refine ⟨_, (PSs.nox (pss_cons (ps_set (i := 1) sc_law_odd.nd rfl (Or.inl rfl) (pe_lst (pa_cons (pe_tup pa_nil) (pa_cons (pe_lst pa_nil) (pa_cons pe_dnewK (pa_cons (pe_tup (pa_cons pe_int pa_nil)) (pa_cons (pe_lst (pa_cons pe_str pa_nil)) (pa_cons (pe_tup (pa_cons pe_str (pa_cons pe_int pa_nil))) (pa_cons (pe_op op_pow pe_int pe_int) (pa_cons (pe_un un_neg (pe_op op_pow pe_int pe_int)) (pa_cons (pe_op op_pow pe_int pe_int) (pa_cons pe_str (pa_cons pe_str (pa_cons (pe_op Ab.op_repS pe_str pe_int) (pa_cons (pe_tup (pa_cons pe_non pa_nil)) pa_nil)))))))))))))))
      (pss_one (ps_ret (pe_o (ok_law_choice T) (T.glo 22) (b_law_choice) gd_false (hr.mono (by omega)) rfl pass0 (pa_cons (pv 0) (pa_cons (pe_op op_cat (pv 1) (pe_lst (pa_cons (pe_disp (pps_cons pe_str pe_int pps_nil) (by rfl) (by rfl) (fun z => by cases z) (by decide)) pa_nil))) pa_nil))))))), ?_⟩
  walk_at "rd"
  have R := hR
  refine ⟨by decide, fun p0 hp0 => ?_⟩
  have n0 := R.ne hp0
  have E0 : Ex H (upd H p0 (HO.tup [])) := Ex.new hp0
  have q0 : upd H p0 (HO.tup []) p0 = some (HO.tup []) := upd_same
  generalize upd H p0 (HO.tup []) = G0 at E0 q0 ⊢
  have R := R.ex E0
  refine ⟨by decide, fun p1 hp1 => ?_⟩
  have n1 := R.ne hp1
  have E1 : Ex G0 (upd G0 p1 (HO.lst [])) := Ex.new hp1
  have q1 : upd G0 p1 (HO.lst []) p1 = some (HO.lst []) := upd_same
  generalize upd G0 p1 (HO.lst []) = G1 at E1 q1 ⊢
  have R := R.ex E1
  have q0 := E1 _ _ q0
  refine fun p2 hp2 => ?_
  have n2 := R.ne hp2
  have E2 : Ex G1 (upd G1 p2 (HO.dK [])) := Ex.new hp2
  have q2 : upd G1 p2 (HO.dK []) p2 = some (HO.dK []) := upd_same
  generalize upd G1 p2 (HO.dK []) = G2 at E2 q2 ⊢
  have R := R.ex E2
  have q0 := E2 _ _ q0
  have q1 := E2 _ _ q1
  refine ⟨by decide, fun p3 hp3 => ?_⟩
  have n3 := R.ne hp3
  have E3 : Ex G2 (upd G2 p3 (HO.tup [V.int 1])) := Ex.new hp3
  have q3 : upd G2 p3 (HO.tup [V.int 1]) p3 = some (HO.tup [V.int 1]) := upd_same
  generalize upd G2 p3 (HO.tup [V.int 1]) = G3 at E3 q3 ⊢
  have R := R.ex E3
  have q0 := E3 _ _ q0
  have q1 := E3 _ _ q1
  have q2 := E3 _ _ q2
  refine ⟨by decide, fun p4 hp4 => ?_⟩
  have n4 := R.ne hp4
  have E4 : Ex G3 (upd G3 p4 (HO.lst [V.str (Str.ofString "a")])) := Ex.new hp4
  have q4 : upd G3 p4 (HO.lst [V.str (Str.ofString "a")]) p4 = some (HO.lst [V.str (Str.ofString "a")]) := upd_same
  generalize upd G3 p4 (HO.lst [V.str (Str.ofString "a")]) = G4 at E4 q4 ⊢
  have R := R.ex E4
  have q0 := E4 _ _ q0
  have q1 := E4 _ _ q1
  have q2 := E4 _ _ q2
  have q3 := E4 _ _ q3
  refine ⟨by decide, fun p5 hp5 => ?_⟩
  have n5 := R.ne hp5
  have E5 : Ex G4 (upd G4 p5 (HO.tup [V.str (Str.ofString "int"), V.int 1])) := Ex.new hp5
  have q5 : upd G4 p5 (HO.tup [V.str (Str.ofString "int"), V.int 1]) p5 = some (HO.tup [V.str (Str.ofString "int"), V.int 1]) := upd_same
  generalize upd G4 p5 (HO.tup [V.str (Str.ofString "int"), V.int 1]) = G5 at E5 q5 ⊢
  have R := R.ex E5
  have q0 := E5 _ _ q0
  have q1 := E5 _ _ q1
  have q2 := E5 _ _ q2
  have q3 := E5 _ _ q3
  have q4 := E5 _ _ q4
  refine ⟨⟨by decide, by decide, by decide⟩, ⟨by decide, by decide, by decide⟩, ⟨by decide, by decide, by decide⟩, by decide, by decide, by decide +kernel, by decide, fun p6 hp6 => ?_⟩
  have n6 := R.ne hp6
  have E6 : Ex G5 (upd G5 p6 (HO.tup [V.non])) := Ex.new hp6
  have q6 : upd G5 p6 (HO.tup [V.non]) p6 = some (HO.tup [V.non]) := upd_same
  generalize upd G5 p6 (HO.tup [V.non]) = G6 at E6 q6 ⊢
  have R := R.ex E6
  have q0 := E6 _ _ q0
  have q1 := E6 _ _ q1
  have q2 := E6 _ _ q2
  have q3 := E6 _ _ q3
  have q4 := E6 _ _ q4
  have q5 := E6 _ _ q5
  refine ⟨by decide, fun p7 hp7 => ?_⟩
  have n7 := R.ne hp7
  have E7 : Ex G6 (upd G6 p7 (HO.lst [V.ref p0, V.ref p1, V.ref p2, V.ref p3, V.ref p4, V.ref p5, V.int (10 ^ Int.toNat 30), V.int (-10 ^ Int.toNat 30), V.int (10 ^ Int.toNat 39), V.str (Str.ofString "'"), V.str (Str.ofString "a'b"), V.str (repS (Str.ofString "z") (Int.toNat 61)), V.ref p6])) := Ex.new hp7
  have q7 : upd G6 p7 (HO.lst [V.ref p0, V.ref p1, V.ref p2, V.ref p3, V.ref p4, V.ref p5, V.int (10 ^ Int.toNat 30), V.int (-10 ^ Int.toNat 30), V.int (10 ^ Int.toNat 39), V.str (Str.ofString "'"), V.str (Str.ofString "a'b"), V.str (repS (Str.ofString "z") (Int.toNat 61)), V.ref p6]) p7 = some (HO.lst [V.ref p0, V.ref p1, V.ref p2, V.ref p3, V.ref p4, V.ref p5, V.int (10 ^ Int.toNat 30), V.int (-10 ^ Int.toNat 30), V.int (10 ^ Int.toNat 39), V.str (Str.ofString "'"), V.str (Str.ofString "a'b"), V.str (repS (Str.ofString "z") (Int.toNat 61)), V.ref p6]) := upd_same
  generalize upd G6 p7 (HO.lst [V.ref p0, V.ref p1, V.ref p2, V.ref p3, V.ref p4, V.ref p5, V.int (10 ^ Int.toNat 30), V.int (-10 ^ Int.toNat 30), V.int (10 ^ Int.toNat 39), V.str (Str.ofString "'"), V.str (Str.ofString "a'b"), V.str (repS (Str.ofString "z") (Int.toNat 61)), V.ref p6]) = G7 at E7 q7 ⊢
  have R := R.ex E7
  have q0 := E7 _ _ q0
  have q1 := E7 _ _ q1
  have q2 := E7 _ _ q2
  have q3 := E7 _ _ q3
  have q4 := E7 _ _ q4
  have q5 := E7 _ _ q5
  have q6 := E7 _ _ q6
  intro p8 hp8
  refine ⟨upd_same, [(.inr (Str.ofString "a"), .int 1)], rfl, by decide, ?_⟩
  have n8 := R.ne hp8
  have E8 : Ex G7 (upd (upd G7 p8 (HO.dK [])) p8 (HO.dK (mergeK [] [(.inr (Str.ofString "a"), V.int 1)]))) := Ex.keep (Ex.new hp8) hp8
  have q8 : upd (upd G7 p8 (HO.dK [])) p8 (HO.dK (mergeK [] [(.inr (Str.ofString "a"), V.int 1)])) p8 = some (HO.dK [(.inr (Str.ofString "a"), V.int 1)]) := upd_same
  generalize upd (upd G7 p8 (HO.dK [])) p8 (HO.dK (mergeK [] [(.inr (Str.ofString "a"), V.int 1)])) = G8 at E8 q8 ⊢
  have R := R.ex E8
  have q0 := E8 _ _ q0
  have q1 := E8 _ _ q1
  have q2 := E8 _ _ q2
  have q3 := E8 _ _ q3
  have q4 := E8 _ _ q4
  have q5 := E8 _ _ q5
  have q6 := E8 _ _ q6
  have q7 := E8 _ _ q7
  refine ⟨by decide, fun p9 hp9 => ?_⟩
  have n9 := R.ne hp9
  have E9 : Ex G8 (upd G8 p9 (HO.lst [V.ref p8])) := Ex.new hp9
  have q9 : upd G8 p9 (HO.lst [V.ref p8]) p9 = some (HO.lst [V.ref p8]) := upd_same
  generalize upd G8 p9 (HO.lst [V.ref p8]) = G9 at E9 q9 ⊢
  have R := R.ex E9
  have q0 := E9 _ _ q0
  have q1 := E9 _ _ q1
  have q2 := E9 _ _ q2
  have q3 := E9 _ _ q3
  have q4 := E9 _ _ q4
  have q5 := E9 _ _ q5
  have q6 := E9 _ _ q6
  have q7 := E9 _ _ q7
  have q8 := E9 _ _ q8
  refine ⟨_, q7, _, q9, (show 13 + 1 ≤ sizeLine by decide), fun p10 hp10 => ?_⟩
  have n10 := R.ne hp10
  have E10 : Ex G9 (upd G9 p10 (HO.lst ([V.ref p0, V.ref p1, V.ref p2, V.ref p3, V.ref p4, V.ref p5, V.int (10 ^ Int.toNat 30), V.int (-10 ^ Int.toNat 30), V.int (10 ^ Int.toNat 39), V.str (Str.ofString "'"), V.str (Str.ofString "a'b"), V.str (repS (Str.ofString "z") (Int.toNat 61)), V.ref p6] ++ [V.ref p8]))) := Ex.new hp10
  have q10 : upd G9 p10 (HO.lst ([V.ref p0, V.ref p1, V.ref p2, V.ref p3, V.ref p4, V.ref p5, V.int (10 ^ Int.toNat 30), V.int (-10 ^ Int.toNat 30), V.int (10 ^ Int.toNat 39), V.str (Str.ofString "'"), V.str (Str.ofString "a'b"), V.str (repS (Str.ofString "z") (Int.toNat 61)), V.ref p6] ++ [V.ref p8])) p10 = some (HO.lst ([V.ref p0, V.ref p1, V.ref p2, V.ref p3, V.ref p4, V.ref p5, V.int (10 ^ Int.toNat 30), V.int (-10 ^ Int.toNat 30), V.int (10 ^ Int.toNat 39), V.str (Str.ofString "'"), V.str (Str.ofString "a'b"), V.str (repS (Str.ofString "z") (Int.toNat 61)), V.ref p6] ++ [V.ref p8])) := upd_same
  generalize upd G9 p10 (HO.lst ([V.ref p0, V.ref p1, V.ref p2, V.ref p3, V.ref p4, V.ref p5, V.int (10 ^ Int.toNat 30), V.int (-10 ^ Int.toNat 30), V.int (10 ^ Int.toNat 39), V.str (Str.ofString "'"), V.str (Str.ofString "a'b"), V.str (repS (Str.ofString "z") (Int.toNat 61)), V.ref p6] ++ [V.ref p8])) = G10 at E10 q10 ⊢
  have R := R.ex E10
  have q0 := E10 _ _ q0
  have q1 := E10 _ _ q1
  have q2 := E10 _ _ q2
  have q3 := E10 _ _ q3
  have q4 := E10 _ _ q4
  have q5 := E10 _ _ q5
  have q6 := E10 _ _ q6
  have q7 := E10 _ _ q7
  have q8 := E10 _ _ q8
  have q9 := E10 _ _ q9
  have DH : Dr r H G10 := ⟨fun b o nb q => E10 _ _ (E9 _ _ (E8 _ _ (E7 _ _ (E6 _ _ (E5 _ _ (E4 _ _ (E3 _ _ (E2 _ _ (E1 _ _ (E0 _ _ (q))))))))))), R⟩
  refine ⟨r, p10, _, rfl, R, n10, SqL.of q10, nofun, (show 14 ≤ 100000 by decide), fun v H' hv d => hQ v H' ?_ (DH.trans d)⟩
  simp only [List.cons_append, List.nil_append, List.mem_cons, List.not_mem_nil, or_false] at hv
  rcases hv with rfl | rfl | rfl | rfl | rfl | rfl | rfl | rfl | rfl | rfl | rfl | rfl | rfl | rfl
  · exact odd_tup (d.get n0 q0) n0 (by decide) (by decide +kernel)
  · exact odd_lst (d.get n1 q1) n1 (by decide) (by decide +kernel)
  · exact odd_dK (d.get n2 q2) n2 (by decide) (by decide +kernel)
  · exact odd_tup (d.get n3 q3) n3 (by decide) (by decide +kernel)
  · exact odd_lst (d.get n4 q4) n4 (by decide) (by decide +kernel)
  · exact odd_tup (d.get n5 q5) n5 (by decide) (by decide +kernel)
  · exact odd_int (by decide +kernel) (by decide +kernel)
  · exact odd_int (by decide +kernel) (by decide +kernel)
  · exact odd_int (by decide +kernel) (by decide +kernel)
  · exact odd_str (by decide +kernel) (by decide +kernel)
  · exact odd_str (by decide +kernel) (by decide +kernel)
  · exact odd_str (by decide +kernel) (by decide +kernel)
  · exact odd_tup (d.get n6 q6) n6 (by decide) (by decide +kernel)
  · exact odd_dK (d.get n8 q8) n8 (by decide) (by decide +kernel)
theorem ok_law_right (T : Txt P K mg) : Fo true P w K mg base CX0 6 d_law_right ["_law_rng_here"] spRight := by
  obtain ⟨fd, F⟩ := T.dfn 24 (d := d_law_right)
  refine ⟨fd, Fq.mk' F sc_law_right (fun vs H Q E h => ?_) (fun cdv A outer s H vs Q E hg hr h => ?_), F⟩
  · obtain ⟨r, rfl, _⟩ := h
    rfl
  obtain ⟨r, rfl, hR, hQ⟩ := h
  refine ⟨_, (PSs.nox (pss_cons (ps_for PassesOwn.never rfl (pi_range1 rfl (T.free 46) (pa_cons pe_int pa_nil)) (pg_name (i := 1) sc_law_right.nd rfl (Or.inl rfl)) (pss_cons (ps_par (i := 2) (j := 3) (by rfl) sc_law_right.nd rfl rfl (by decide) rfl rfl (pa_cons (pe_o (ok_law_any_value T) (T.glo 27) (b_law_any_value) gd_false (hr.mono (by omega)) rfl pass0 (pa_cons (pv 0) pa_nil)) (pa_cons (pe_o (ok_law_odd T) (T.glo 38) (b_law_odd) gd_false (hr.mono (by omega)) rfl pass0 (pa_cons (pv 0) pa_nil)) pa_nil)) (by rfl))
      (pss_cons (ps_set (i := 4) sc_law_right.nd rfl (Or.inl rfl) (pe_o (ok_law_text T) (T.glo 29) (b_law_text) gd_false (hr.mono (by omega)) rfl pass0 (pa_cons (pv 2) pa_nil)))
      (pss_cons (ps_if (PW.pt (pw_or (pt_not (pt_val (pe_o (ok_law_written_right T) (T.glo 37) (b_law_written_right) hg (hr.mono (by omega)) rfl pass0 (pa_cons (pv 2) pa_nil)))) (pw_or1 (pt_not (pt_val (pe_o (ok_law_written_right T) (T.glo 37) (b_law_written_right) hg (hr.mono (by omega)) rfl pass0 (pa_cons (pv 3) pa_nil))))))) (pss_one (ps_ret pe_bl)) pss_nil)
      (pss_cons (ps_set (i := 5) sc_law_right.nd rfl (Or.inl rfl) (pe_lst (pa_cons (pv 4) (pa_cons (pe_o (ok_law_spoilt T) (T.glo 32) (b_law_spoilt) gd_false (hr.mono (by omega)) rfl pass0 (pa_cons (pv 0) (pa_cons (pv 4) pa_nil))) (pa_cons (pe_o (ok_law_near T) (T.glo 33) (b_law_near) gd_false (hr.mono (by omega)) rfl pass0 (pa_cons (pv 0) pa_nil)) pa_nil)))))
      (pss_cons (ps_if (pt_not (pt_val (pe_callB (cr_all rfl) rfl (T.free 47) (by decide +kernel) (pa_cons (pe_lc (own := [("_law_thing", 6)]) rfl sc_law_right.nd (pi_list (pv 5)) (blkOk_by (own := [("_law_thing", 6)]) (N := N_law_right) (sc := defScope s_law_right) (by decide +kernel)) (fun _ _ _ _ _ => (pg_name (i := 6) sc_law_right.nd rfl (Or.inl rfl))) (fun _ _ _ _ _ => pts_nil) (fun _ _ _ _ _ => (pe_o (ok_law_read_right T) (T.glo 35) (b_law_read_right) hg (hr.mono (by omega)) rfl pass0 (pa_cons (pv 6) pa_nil)))) pa_nil)))) (pss_one (ps_ret pe_bl)) pss_nil)
      (pss_cons (ps_if (PW.pt (pw_and (pt_not (pt_val (pe_callB call_isi rfl (T.free 42) (by decide +kernel) (pa_cons (pv 3) (pa_cons (pe_bltn (v := .ty "str") rfl (T.free 45) (by decide +kernel) rfl) pa_nil))))) (pw_and1 (pt_not (pt_val (pe_o (ok_law_read_right T) (T.glo 35) (b_law_read_right) hg (hr.mono (by omega)) rfl pass0 (pa_cons (pv 3) pa_nil))))))) (pss_one (ps_ret pe_bl)) pss_nil)
      (pss_cons (ps_set (i := 6) sc_law_right.nd rfl (Or.inl rfl) (pe_o (ok_law_choice T) (T.glo 22) (b_law_choice) gd_false (hr.mono (by omega)) rfl pass0 (pa_cons (pv 0) (pa_cons (pe_lst (pa_cons pe_non (pa_cons pe_bl (pa_cons pe_bl (pa_cons pe_int (pa_cons pe_int (pa_cons (pe_ifExp (pt_val (pe_callB call_isi rfl (T.free 42) (by decide +kernel) (pa_cons (pv 2) (pa_cons (pe_bltn (v := .ty "str") rfl (T.free 45) (by decide +kernel) rfl) pa_nil)))) (pe_tup pa_nil) (pv 2)) pa_nil))))))) pa_nil))))
      (pss_one (ps_if (pt_not (pt_val (pe_o (ok_law_read_right T) (T.glo 35) (b_law_read_right) hg (hr.mono (by omega)) rfl pass0 (pa_cons (pv 6) pa_nil)))) (pss_one (ps_ret pe_bl)) pss_nil))))))))))
      (pss_one (ps_ret pe_bl)))), ?_⟩
  walk_at "rd"
  refine ⟨by decide, by decide, ?_⟩
  refine for_f walk_range (fun i σ H' => ∃ (a1 a2 a3 a4 a5 a6 : Option V), σ = [some (.ref r), a1, a2, a3, a4, a5, a6] ∧ Dr r H H') ⟨_, _, _, _, _, _, rfl, Dr.refl hR⟩ (fun _ _ _ _ _ => trivial) ?_ ?_
  rotate_left
  · rintro σ H2 ⟨a1, a2, a3, a4, a5, a6, rfl, d2⟩
    walk_at "rd"
    exact hQ _ d2
  rintro i x σ H1 H2 hi ⟨a1, a2, a3, a4, a5, a6, rfl, d1⟩ ⟨rfl, rfl⟩
  walk_at "rd"
  refine ⟨r, rfl, d1.rg, fun v H3 hv d3 => ⟨r, rfl, d3.rg, fun o H4 ho d4 => ?_⟩⟩
  have D4 := d1.trans (d3.trans d4)
  obtain ⟨f, vi, vz, vR, vT, vG⟩ := gv_facts (K := K) hv
  obtain ⟨oi, o1, o2, d, sh, dp, sz, oF⟩ := ho
  have oT : ∀ H', Fx r H4 H' → Ty K H' o := fun H' f => (oF H' f).1
  have hsl : ∀ z, v = .str z → (cs z).length ≤ 60 := fun z e => (vz z e).1.1
  have last : ∀ H9, Dr r H H9 → ∀ (B : VK), (∀ w H10, Dr r H H10 → (∀ H', Ex H10 H' → Ty K H' w) → (∀ z, w = .str z → Gn 5000 z) → B w H10) → (rIsi K [v, V.ty "str"] H9 fun x H1 => ∃ c, x = V.bl c ∧ if c = true then 0 ≤ sizeLine ∧ ∀ (p : Addr), H1 p = none → 6 ≤ sizeLine ∧ ∀ (p_1 : Addr), upd H1 p (HO.tup []) p_1 = none → spChoice K [V.ref r, V.ref p_1] (upd (upd H1 p (HO.tup [])) p_1 (HO.lst [V.non, V.bl true, V.bl false, V.int 0, V.int 1, V.ref p])) B E0
      else 6 ≤ sizeLine ∧ ∀ (p : Addr), H1 p = none → spChoice K [V.ref r, V.ref p] (upd H1 p (HO.lst [V.non, V.bl true, V.bl false, V.int 0, V.int 1, v])) B E0) := by
    intro H9 d9 B hB
    have simple : ∀ (w : V), w ∈ [V.non, V.bl true, V.bl false, V.int 0, V.int 1] → ∀ H10, Dr r H H10 → B w H10 := fun w hw H10 d10 => by
      simp only [List.mem_cons, List.not_mem_nil, or_false] at hw
      rcases hw with rfl | rfl | rfl | rfl | rfl <;> exact hB _ _ d10 (fun _ _ => trivial) nofun
    refine is_str (vT H9) ⟨_, rfl, ite2 (fun h => ⟨by decide, fun p hp => ⟨by decide, fun p1 hp1 => ?_⟩⟩) (fun h => ⟨by decide, fun p hp => ?_⟩)⟩
    · have dp' := d9.ex (Ex.new (o := HO.tup []) hp)
      have np := d9.rg.ne hp
      refine choose dp'.rg hp1 nofun (show 6 ≤ 100000 by decide) fun w H10 hw d10 => ?_
      rcases List.mem_append.mp (show w ∈ [V.non, V.bl true, V.bl false, V.int 0, V.int 1] ++ [V.ref p] from hw) with hw | hw
      · exact simple w hw _ (dp'.trans d10)
      · rw [List.mem_singleton.mp hw]
        have hp10 := d10.get np upd_same
        exact hB _ _ (dp'.trans d10) (fun H' e => Ty.tup (e _ _ hp10)) nofun
    · refine choose d9.rg hp nofun (show 6 ≤ 100000 by decide) fun w H10 hw d10 => ?_
      rcases List.mem_append.mp (show w ∈ [V.non, V.bl true, V.bl false, V.int 0, V.int 1] ++ [v] from hw) with hw | hw
      · exact simple w hw _ (d9.trans d10)
      · rw [List.mem_singleton.mp hw]
        exact hB _ _ (d9.trans d10) (fun H' _ => vT H') fun z e => (vz z e).1.le (by decide)
  refine ⟨v, rfl, f, hsl, fun H5 e5 => ⟨v, fD v, rfl, fun H' _ => vT H', vi, vR H5, fun H6 e6 => ⟨_, rfl, ?_⟩⟩⟩
  rw [if_neg (by decide)]
  have x46 : Fx r H4 H6 := Ex.fx (e5.trans e6)
  refine ⟨o, d, rfl, fun H' e => oT _ (x46.ex e), o1, ⟨fun H' e => (oF _ (x46.ex e)).2, sh, dp, sz⟩, fun H7 e7 => ⟨_, rfl, ?_⟩⟩
  rw [if_neg (by decide)]
  have x47 := x46.ex e7
  have D7 : Dr r H H7 := ((D4.ex e5).ex e6).ex e7
  refine ⟨r, _, rfl, vG, D7.rg, fun z1 H8 hz1 d8 => ⟨r, rfl, d8.rg, fun z2 H9 hz2 d9 => ⟨by decide, fun p hp => ?_⟩⟩⟩
  have D9 := (D7.trans d8).trans d9
  have x49 : Fx r H4 H9 := (x47.trans d8.fx).trans d9.fx
  refine ⟨⟨_, SqL.of upd_same⟩, ?_⟩
  have D10 : Dr r H (upd H9 p (HO.lst [V.str (vtext v), V.str z1, V.str z2])) := D9.ex (Ex.new hp)
  have x410 : Fx r H4 (upd H9 p (HO.lst [V.str (vtext v), V.str z1, V.str z2])) := x49.ex (Ex.new hp)
  have q10 : upd H9 p (HO.lst [V.str (vtext v), V.str z1, V.str z2]) p = some (.lst [V.str (vtext v), V.str z1, V.str z2]) := upd_same
  generalize upd H9 p (HO.lst [V.str (vtext v), V.str z1, V.str z2]) = H10 at D10 x410 q10 ⊢
  refine lc_val (walk_list (xs := [V.str (vtext v), V.str z1, V.str z2])) (fun H' e => SqL.of (e _ _ q10)) (show 3 ≤ 100000 by decide) (fun _ => .bl true) ?_ ?_
  · rintro j x H11 H12 hj e11 ⟨rfl, hx⟩ Qn k
    walk_at "rd"
    have hxs : ∃ z : Str, x = .str z ∧ Gn 5000 z := by
      match j, hx with
      | 0, hx => cases hx; exact ⟨_, rfl, vG.le (by decide)⟩
      | 1, hx => cases hx; exact ⟨_, rfl, hz1.le (by decide)⟩
      | 2, hx => cases hx; exact ⟨_, rfl, hz2⟩
    obtain ⟨z, rfl, hz⟩ := hxs
    exact ⟨rfl, _, rfl, _, rfl, fun H' _ => Nat.le_trans hz.1 (by decide), fun y e => (by cases e; exact hz), fun H' e => k _ e⟩
  intro D H11 hD e11 h11
  refine ⟨D, rfl, [true, true, true], SqL.of h11, ?_⟩
  rw [if_neg (by decide)]
  have D11 := D10.ex e11
  have x411 := x410.ex e11
  refine is_str (oT _ x411) ⟨_, rfl, ite2 (fun h => ?_) (fun h => ?_)⟩
  · refine ⟨o, rfl, fun H' e => oT _ (x411.ex e), o2, fun H12 e12 => ⟨_, rfl, ?_⟩⟩
    rw [if_neg (by decide)]
    refine last _ (D11.ex e12) _ fun w H13 d13 wT wz => ⟨w, rfl, wT, wz, fun H14 e14 => ⟨_, rfl, ?_⟩⟩
    rw [if_neg (by decide)]
    exact d13.ex e14
  · refine last _ D11 _ fun w H13 d13 wT wz => ⟨w, rfl, wT, wz, fun H14 e14 => ⟨_, rfl, ?_⟩⟩
    rw [if_neg (by decide)]
    exact d13.ex e14
theorem ok_law (T : Txt P K mg) : Fo true P w K mg base CX0 7 d_law ["_law_script"] (spLaw K) := by
  obtain ⟨fd, F⟩ := T.dfn 25 (d := d_law)
  refine ⟨fd, Fq.mk' F sc_law (fun vs H Q E h => ?_) (fun cdv A outer s H vs Q E hg hr h => ?_), F⟩
  · obtain ⟨a, ns, rfl, _⟩ := h
    rfl
  obtain ⟨a, ns, rfl, hS, hQ⟩ := h
  refine ⟨_, (PSs.nox (pss_one (ps_ret (pe_callB (cr_all rfl) rfl (T.free 47) (by decide +kernel) (pa_cons (pe_lc (own := [("_law_k", 1)]) rfl sc_law.nd (pi_range1 rfl (T.free 46) (pa_cons (pe_callB (call_max2 rfl) rfl (T.free 49) (by decide +kernel) (pa_cons pe_int (pa_cons (pe_callB (call_min2 rfl) rfl (T.free 54) (by decide +kernel) (pa_cons (pe_callB call_len_seq rfl (T.free 51) (by decide +kernel) (pa_cons (pv 0) pa_nil)) (pa_cons pe_int pa_nil))) pa_nil))) pa_nil)) (blkOk_by (own := [("_law_k", 1)]) (N := N_law) (sc := defScope s_law) (by decide +kernel)) (fun _ _ _ _ _ => (pg_name (i := 1) sc_law.nd rfl (Or.inl rfl))) (fun _ _ _ _ _ => pts_nil) (fun _ _ _ _ _ => (pe_o (ok_law_right T) (T.glo 39) (b_law_right) hg (hr.mono (by omega)) rfl pass0 (pa_cons (pe_o (ok_law_rng T) (T.glo 20) (b_law_rng) gd_false (hr.mono (by omega)) rfl pass0 (pa_cons (pv 0) (pa_cons (pv 1) pa_nil))) pa_nil)))) pa_nil))))), ?_⟩
  walk_at "rd"
  refine ⟨_, .inl hS, ?_⟩
  generalize hm : (if (if (6 : Int) < ((List.map V.int ns).length : Int) then (6 : Int) else ((List.map V.int ns).length : Int)) > 1 then if (6 : Int) < ((List.map V.int ns).length : Int) then (6 : Int) else ((List.map V.int ns).length : Int) else 1) = m
  have m0 : 0 ≤ m ∧ m ≤ 6 := by
    rw [← hm]
    split <;> split <;> omega
  refine ⟨by omega, by omega, ?_⟩
  refine lc_val walk_range (fun _ _ => trivial) (by omega) (fun _ => .bl true) ?_ ?_
  · rintro i x H1 H2 hi e ⟨rfl, rfl⟩ Qn k
    walk_at "rd"
    refine ⟨rfl, _, rfl, _, rfl, a, ns, _, rfl, ex_seqL e hS, by omega, by omega, fun p H3 hp e3 hR => ⟨p, rfl, hR, fun H4 d4 => k _ fun b o q => ?_⟩⟩
    exact d4.get (ne_of_none q hp) (e3 _ _ q)
  · intro D H' hD e hl
    refine ⟨D, rfl, List.replicate m.toNat true, SqL.of (hl.trans ?_), ?_⟩
    · simp [List.map_const']
    · have e1 : (List.replicate m.toNat true).all id = true := by
        rw [List.all_eq_true]
        intro b hb
        exact (List.mem_replicate.mp hb).2
      rw [e1]
      exact hQ _
end
end K14

set_option Elab.async false
set_option linter.all false
set_option maxRecDepth 100000
set_option maxHeartbeats 0
namespace K14
open PySem PySem.Spec PyProof.Rows L2 Ab
abbrev R : PySem.W.OpenRow := PySem.W.OpenLaw.row PySem.Challenge.rw_aboveless_k14_texts_of_values
abbrev hk : PySem.W.Hook := hookY 5 fa fn xn exB
def ob (s : PySem.W.SharedT) : AlY := obsYG 5 fa fn xn exB (HandSHeadRun.getT s)
theorem ob_eq (s : PySem.W.SharedT) : ob s = hk.obs s.abs := obsYG_eq (HandSHeadRun.getT_eq s)
def names : List PySem.Str := (["InvalidError", "InvalidText", "InvalidRow", "InvalidKey", "INT", "TEXT", "TRUTH", "SORTS", "FIGURES", "QUOTE", "EMPTY_TEXT", "TRUE_TEXT"] : List PySem.Str) ++ (["FALSE_TEXT", "MOST_DIGITS", "LONGEST_STRING", "is_integer", "is_value", "value_text", "integer_in", "read_value", "_law_rng", "_law_draw", "_law_choice", "_law_signs"] : List PySem.Str) ++ (["_law_figures_drawn", "_law_number", "_law_string", "_law_any_value", "_law_is_value", "_law_text", "_law_figures", "_law_read", "_law_spoilt", "_law_near", "_law_told", "_law_read_right"] : List PySem.Str) ++ (["_law_written", "_law_written_right", "_law_odd", "_law_right"] : List PySem.Str)
theorem hrun (w : World) : HandSHeadRun.RunEq R (PySem.W.view R.prog [43]) hk ob 6000 names w := by
  intro os
  kernel_rfl
theorem pfile : PFile (PySem.Challenge.rw_aboveless_k14_texts_of_values).prog := ⟨by kernel_rfl, by kernel_rfl⟩
end K14
open PySem PySem.W PySem.Calls PyProof.Rows
theorem PySem.Challenge.cw_aboveless_k14_texts_of_values_holds : PySem.Challenge.rw_aboveless_k14_texts_of_values.Holds := by
  w_on; o_law
  refine HandSHeadRun.head_any (r := OpenLaw.row PySem.Challenge.rw_aboveless_k14_texts_of_values) (q := view (OpenLaw.row PySem.Challenge.rw_aboveless_k14_texts_of_values).prog [43]) (H := K14.hk) (ob := K14.ob) (M := 6000) (loose := K14.names) (d := HandSHeadRun.topDef (OpenLaw.row PySem.Challenge.rw_aboveless_k14_texts_of_values).prog 43) (kwd := []) K14.ob_eq
    (by kernel_rfl) (fun s => by kernel_rfl) K14.hrun (by kernel_rfl) (by kernel_rfl) (by kernel_rfl) (by rfl) (by first | assumption | decide +kernel) (by decide +kernel) ⟨rfl, rfl, rfl, rfl, rfl, by decide +kernel⟩ ?hw ?hc
  case hw => w_witness2
  case hc =>
    refine Ab.walk_q (l := PySem.Challenge.rw_aboveless_k14_texts_of_values) (n := 63) (k := 7) (x := "_law_script") rfl (by decide) (by kernel_rfl) ⟨rfl, by decide, by decide⟩ ?F
    intro w mg f h Y G hmg0
    obtain ⟨K, KX, c, cx⟩ := Y
    have hmg : mg ("law" : PySem.Str) = some (.ref f) := by
      have e : (HandSHeadRun.topDef (OpenLaw.row PySem.Challenge.rw_aboveless_k14_texts_of_values).prog 43).name = ("law" : PySem.Str) := by kernel_rfl
      rw [← e]
      exact hmg0
    have T : K14.Txt (PySem.Challenge.rw_aboveless_k14_texts_of_values).prog K mg := ⟨⟨⟨h, KX, G⟩, c⟩, K14.pfile, cx⟩
    have ef := hmg.symm.trans (T.glo 40 (x := "law"))
    cases ef
    obtain ⟨fd, FD⟩ := T.dfn 25 (d := K14.d_law)
    have b := L2.FunD.bindsA (ps := ["_law_script"]) FD fun _ _ _ _ _ _ us hl => match us, hl with | [_], _ => rfl
    refine ⟨K, fd, K14.spLaw K, KX, fun s u => b s [u] rfl, fun H a ns hl hS => ⟨a, ns, rfl, hS, fun _ => rfl⟩, fun base _ _ => ?_⟩
    obtain ⟨fd', F', FD'⟩ := K14.ok_law (P := (PySem.Challenge.rw_aboveless_k14_texts_of_values).prog) (w := w) (base := base) T
    exact Ab.fd_eq FD FD' ▸ F'
