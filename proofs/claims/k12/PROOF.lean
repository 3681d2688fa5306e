import PyProof.Rows.All
import Wide.All
import OpenK.AllK
import Wide.FinOn
import KE.KStateDown
import HandS.ForMost
import HandS.Flow
import HandS.Exc
import HandS.IsInst
import HandS.Star
import HandS.Defaults
import HandS.Wide
import HandS.WideBits
import HandS.EndBits
import HandS.HeadHook1
import HandS.HeadHook2
import HandS.HeadEnd
import HandS.Head2
import HandS.ClsMeth
import HandS.FStr
import HandS.Walk
import PyProof.ReprRoads
import PyProof.ReprNest
import PyProof.ReprDict
import HandS.FromBytesMap
import HandS.Ends
import KE.KExcSuper
import KE.KSuper
import HandS.ExcInit
import HandS.ExcSuper
import HandS.ExcIs
import HandS.ExcField
import HandS.Small
import KE.KExcInit
import HandS.StrMore
import HandS.Style
import HandS.DeepEq
import PyProof.NeKinds
import KE.KCallOwn
import PyProof.InstNe
import PyProof.FactsAll.dict
import HandS.SetFor
import HandS.Strs
import HandS.TupAny
import HandS.Property
import HandS.TryMany
import PySem.Challenge.RW_aboveless_k12_labels_made_and_read
import PyProof.Rows.StrSplitCount
import PyProof.Rows.StrSplitJoin
import PyProof.Rows.StrSplitAre
import PyProof.StrLawsTight
set_option Elab.async false
set_option linter.all false
set_option maxRecDepth 100000
set_option maxHeartbeats 4000000
/-! AbA: defs with a guard's flag, by name. -/
namespace Ab
open PySem PySem.Spec PyProof.Rows L2
/-- no repr runs around (asked only where g is true) -/
def Gd (g : Bool) (A : Around) : Prop := g = true → A.guards = some []
theorem gd_deeper {g : Bool} {A : Around} (h : Gd g A) (env : Env) : Gd g (A.deeper env) := fun e => by
  have q := h e
  simp [Around.deeper, q]
theorem gd_false {A : Around} : Gd false A := fun e => by cases e
theorem gd_up {g : Bool} {A : Around} (h : A.guards = some []) : Gd g A := fun _ => h
/-- a def's promise: as FnOk, with the flag -/
structure Fq (g : Bool) (P : Program) (w : World) (K : PySem.W.Frag) (mg : Str → Option Value) (base : Heap)
    (CX : CXT) (k : Nat) (f : Addr) (fd : FuncData) (ps : List Str) (sp : Sp) : Prop where
  len : ∀ vs H Q E, sp vs H Q E → vs.length = ps.length
  go : ∀ (A : Around) (outer : List Env) (s : Shared) (H : Hp) (args : Args) (us : List Value) (vs : List V) (Q : VK) (E : XK),
    Gd g A → Room k A → Env0 P w K mg base A outer s H → BindsTo s fd args (ps.zip us) → Vals vs us → sp vs H Q E →
      codeAny (model P w) A (.call (.ref f) args) (CR CX outer P w H s Q E) s
theorem Fq.of {P : Program} {w : World} {K : PySem.W.Frag} {mg : Str → Option Value} {base : Heap} {CX : CXT} {k : Nat}
    {f : Addr} {fd : FuncData} {ps : List Str} {sp : Sp} (F : FnOk P w K mg base CX k f fd ps sp) :
    Fq false P w K mg base CX k f fd ps sp :=
  ⟨F.len, fun A outer s H args us vs Q E _ hr => F.run A outer s H args us vs Q E hr⟩
section
variable {g : Bool} {P : Program} {w : World} {K : PySem.W.Frag} {mg : Str → Option Value} {base : Heap} {CX : CXT} {k : Nat}
  {f : Addr} {fd : FuncData} {ps N : List Str} {sp : Sp} {x qual : Str} {params : Arguments} {body : List Stmt} {scope : Scope}
  {dvs : List V} {kws : List (Str × V)}
/-- a def by its body -/
theorem Fq.mk' (F : FunD K x qual params body scope dvs kws f fd) (S : FnScope N ps scope)
    (len : ∀ vs H Q E, sp vs H Q E → vs.length = ps.length)
    (hbody : ∀ (cdv : Value) (A : Around) (outer : List Env) (s : Shared) (H : Hp) (vs : List V) (Q : VK) (E : XK),
      Gd g (A.deeper (envOfC qual scope s.heap.objs.size f cdv)) →
      Room k (A.deeper (envOfC qual scope s.heap.objs.size f cdv)) → sp vs H Q E →
      ∃ t, PSs (cxOf CX P w K mg base N qual scope f cdv A outer s H E) body t ∧
        t { nx := fun _ H' => Q .non H', rt := Q } (start N vs) H) :
    Fq g P w K mg base CX (k + 1) f fd ps sp := by
  obtain ⟨oc, od, dV, kV, doc, pm, an, cdv, ct, osl, rfl, lk, hcd, _, _⟩ := F.ex
  refine ⟨len, fun A outer s H args us vs Q E hg hr e0 hb r hsp => ?_⟩
  have KX : K.In s.heap := e0.mod.kin.keeps fun b o e => (e0.bs b o e).1
  have lim : s.heap.NoLimit := e0.mod.nolimit.keeps fun b o e => (e0.bs b o e).1
  have kinds : ∀ y ∈ ps.zip us, scope.names.lookup y.1 = some .local ∨
      (scope.names.lookup y.1 = some .cell ∧ ((cellsFrom (s.heap.objs.size + 1) scope.names []).lookup y.1).isSome = true) := by
    rintro ⟨n, v⟩ hy
    rcases S.par n (List.of_mem_zip hy).1 with q | q
    · exact Or.inl q
    · exact Or.inr ⟨q, PySem.W.cellsFrom_some _ _ _ (Or.inl q)⟩
  refine codeAny_call_function hr.depth (KX _ _ lk) rfl S.co S.gen rfl (PySem.W.codeRec_of KX hcd) (hb _ _ _ _ ?_)
  refine wpAny_newFunctionEnv_cells S.kind kinds fun env he s1 x => ?_
  subst he
  refine ⟨lim.keeps x.toInCall.keep, codeAny_func ?_⟩
  obtain ⟨t, ht, hq⟩ := hbody cdv A outer s H vs Q E (gd_deeper hg _) (hr.deeper _) hsp
  have I := inv_start (CX := CX) (E := E) (cd := cdv) (f := f) (qual := qual) S hr.hd e0 (len _ _ _ _ hsp) r x
  refine wpAny_mono (ht.run [] s1 (start N vs) H _ I hq) (fun fl s' hs => ?_) fun e s' hs => hs
  cases fl with
  | ret u =>
    obtain ⟨v, σ', H', J, rv, q⟩ := hs
    exact ⟨v, H', J.os, J.bare, J.base, J.hok, rv, q⟩
  | next =>
    obtain ⟨σ', H', J, q⟩ := hs
    exact ⟨V.non, H', J.os, J.bare, J.base, J.hok, rfl, q⟩
  | brk => obtain ⟨_, _, _, q⟩ := hs; exact q.elim
  | cont => obtain ⟨_, _, _, q⟩ := hs; exact q.elim
end
/-! ### how values bind -/
def Bw (K : PySem.W.Frag) (fd : FuncData) (ps : List Str) (n : Nat) (ks : List Str) (gV : List V → List V → List V) : Prop :=
  ∀ (s : Shared) (us ws : List Value), K.In s.heap → us.length = n → ws.length = ks.length →
    ∃ zs, BindsTo s fd ⟨us, ks.zip ws⟩ (ps.zip zs) ∧ ∀ vs ys, Vals vs us → Vals ys ws → Vals (gV vs ys) zs
abbrev gPos : List V → List V → List V := fun vs _ => vs
section
variable {K : PySem.W.Frag} {x qual : Str} {params : Arguments} {body : List Stmt} {scope : Scope} {kws : List (Str × V)} {f : Addr} {fd : FuncData} {ps : List Str}
/-- every parameter by its place -/
theorem bw_pos (F : FunD K x qual params body scope [] kws f fd) (n : Nat) (hn : n = ps.length)
    (h : ∀ (kV doc pm : Value) (an : Option Addr) (cdv ct : Value) (us : List Value), us.length = ps.length →
      bindArgs (PySem.W.fnOf x qual params body scope .none kV doc pm an cdv ct) ⟨us, []⟩ = pure (ps.zip us)) : Bw K fd ps n [] gPos := by
  intro s us ws X l1 l2
  have e : ws = [] := List.length_eq_zero_iff.mp l2
  subst e
  exact ⟨us, F.bindsA h s us (l1.trans hn), fun vs ys r _ => r⟩
/-- by names too, no default is looked up -/
theorem bw_kw (F : FunD K x qual params body scope [] kws f fd) (n : Nat) (ks : List Str) (g : {α : Type} → List α → List α → List α)
    (h : ∀ (kV doc pm : Value) (an : Option Addr) (cdv ct : Value) (us ws : List Value), us.length = n → ws.length = ks.length →
      bindArgs (PySem.W.fnOf x qual params body scope .none kV doc pm an cdv ct) ⟨us, ks.zip ws⟩ = pure (ps.zip (g us ws)))
    (hrel : ∀ {vs ys : List V} {us ws : List Value}, us.length = n → ws.length = ks.length → Vals vs us → Vals ys ws → Vals (g vs ys) (g us ws)) : Bw K fd ps n ks g := by
  intro s us ws X l1 l2
  obtain ⟨oc, od, dV, kV, doc, pm, an, cdv, ct, osl, rfl, lk, hcd, hD, hK⟩ := F.ex
  rcases hD with ⟨_, rfl⟩ | ⟨e, _⟩
  · exact ⟨g us ws, .of_eq (h kV doc pm an cdv ct us ws l1 l2), fun vs ys r1 r2 => hrel l1 l2 r1 r2⟩
  · exact absurd rfl e
theorem bw_kbn {n : Nat} {ks : List Str} {g : List Value → List Value → List Value} {gV : List V → List V → List V} (h : KBn K fd ps n ks g gV) : Bw K fd ps n ks gV :=
  fun s us ws X l1 l2 => ⟨g us ws, h.to s us ws X l1 l2, fun _ _ r1 r2 => h.rel r1 r2⟩
/-- by place, one keyword-only parameter left to its default -/
theorem bw_d1 {y : Str} {v : V} (F : FunD K x qual params body scope [] [(y, v)] f fd) (n : Nat) (hn : n + 1 = ps.length)
    (h : ∀ (D : Addr) (doc pm : Value) (an : Option Addr) (cdv ct : Value) (us : List Value) (z : Value), us.length = n →
      KwChain D [(y, z)] (bindArgs (PySem.W.fnOf x qual params body scope .none (.ref D) doc pm an cdv ct) ⟨us, []⟩) (ps.zip (us ++ [z]))) :
    Bw K fd ps n [] (fun vs _ => vs ++ [v]) := by
  obtain ⟨ds, r, hb⟩ := FunD.binds0 (ps := ps) F n (by simp) (by simpa using hn) fun D doc pm an cdv ct us ks l1 l2 => by
    match ks, l2 with
    | [z], _ => exact h D doc pm an cdv ct us z l1
  intro s us ws X l1 l2
  have e : ws = [] := List.length_eq_zero_iff.mp l2
  subst e
  refine ⟨us ++ ds, hb s us X ?_, fun vs ys q _ => q.append r⟩
  have e := r.length
  rw [List.length_append, l1, ← e]
  exact hn
end
/-! ### a def by its datum -/
/-- the def d keeps sp -/
def Fo (g : Bool) (P : Program) (w : World) (K : PySem.W.Frag) (mg : Str → Option Value) (base : Heap)
    (CX : CXT) (k : Nat) (d : He.DefD) (ps : List Str) (sp : Sp) : Prop :=
  ∃ fd, Fq g P w K mg base CX k (He.fAd K d.at_) fd ps sp ∧
    FunD K d.name d.qual d.params d.body d.scope (d.dvs K) (d.kws K) (He.fAd K d.at_) fd
section
variable {X : Cx} {g : Bool} {CX : CXT} {k n : Nat} {d : He.DefD} {ps ks : List Str} {sp : Sp} {E : XK} {x : Str} {p pos : Pos} {e : Expr}
  {es : List Expr} {kws : List Keyword} {t tk : TA} {gV : List V → List V → List V}
theorem run_fq {f : Addr} {fd : FuncData} {pins : List (Addr × Obj)} {σ : L2.St} {H : Hp} {s : Shared} {Q : VK} {args : Args} {us : List Value} {vs : List V}
    (F : Fq g X.prog X.w X.K X.mg X.base CX k f fd ps sp) (hg : Gd g X.A) (hr : Room k X.A) (hb : BindsTo s fd args (ps.zip us))
    (hx : Passes CX X E) (I : Inv X pins σ H s) (r : Vals vs us) (h : sp vs H Q E) :
    codeAny (model X.prog X.w) X.A (.call (.ref f) args) (fun r s' => match r with
      | .ok (.ret v) => EP X pins σ Q v s' | .ok _ => False | .error e => X.xe e s') s := by
  refine codeAny_mono (F.go X.A X.stack s H args us vs Q E hg hr I.env0 hb r h) fun r s' hq => ?_
  cases r with
  | error e => exact hx pins σ H s e s' I hq
  | ok fl =>
    cases fl with
    | ret u => exact I.after hq
    | _ => exact hq.elim
/-- how a call's reading goes: n values by place, m by name -/
def tO (n m : Nat) (sp : Sp) (gV : List V → List V → List V) (E : XK) (t tk : TA) : TE := fun σ H Q => t σ H fun vs H1 => tk σ H1 fun zs H2 =>
  vs.length = n ∧ zs.length = m ∧ sp (gV vs zs) H2 Q E
/-- x(e, ..) -/
theorem pe_o (F : Fo g X.prog X.w X.K X.mg X.base CX k d ps sp) (hm : X.mg x = some (.ref (He.fAd X.K d.at_)))
    (hb : ∀ fd, FunD X.K d.name d.qual d.params d.body d.scope (d.dvs X.K) (d.kws X.K) (He.fAd X.K d.at_) fd → Bw X.K fd ps n [] gV)
    (hg : Gd g X.A) (hr : Room k X.A) (gl : Gl X x) (hx : Passes CX X E)
    (ha : PA X (e :: es) t) (hdb : (x == ("__debug__" : Str)) = false := by decide)
    (he : starEach (e :: es) X.env = (false, eval e X.env) :: starEach es X.env := by rfl)
    (hpl : (backTo pos (starEach es X.env)).any (·.1) = false := by rfl) :
    PE X (.Call (.Name x p) (e :: es) [] pos) (tO n 0 sp gV E t tNil) := by
  obtain ⟨fd, F1, FD⟩ := F
  refine ⟨fun pins s σ H Q I h => wpAny_Call_Name_kw (ld_glob I gl hm ?_ hdb)⟩
  refine PySem.W.callWith_K (h₀ := X.base) I.ok.mod.kin FD.kp (thn (ha.run pos pins s σ H _ I h) fun us s1 q => ?_) he hpl
  obtain ⟨vs, H1, I1, r, l1, l2, q⟩ := q
  obtain ⟨zs, hB, hV⟩ := hb fd FD s1 us [] I1.kIn (r.length.symm.trans l1) rfl
  exact ⟨I1.kIn, wpAny_call (run_fq F1 hg hr hB hx I1 (hV vs [] r .nil) q)⟩
theorem pe_o0 (F : Fo g X.prog X.w X.K X.mg X.base CX k d ps sp) (hm : X.mg x = some (.ref (He.fAd X.K d.at_)))
    (hb : ∀ fd, FunD X.K d.name d.qual d.params d.body d.scope (d.dvs X.K) (d.kws X.K) (He.fAd X.K d.at_) fd → Bw X.K fd ps 0 [] gV)
    (hg : Gd g X.A) (hr : Room k X.A) (gl : Gl X x) (hx : Passes CX X E)
    (hdb : (x == ("__debug__" : Str)) = false := by decide) : PE X (.Call (.Name x p) [] [] pos) (tO 0 0 sp gV E tNil tNil) := by
  obtain ⟨fd, F1, FD⟩ := F
  refine ⟨fun pins s σ H Q I h => wpAny_Call_Name_kw (ld_glob I gl hm ?_ hdb)⟩
  obtain ⟨l1, l2, q⟩ := h
  obtain ⟨zs, hB, hV⟩ := hb fd FD s [] [] I.kIn rfl rfl
  exact PySem.W.callWith_K0 I.kIn FD.kp (wpAny_call (run_fq F1 hg hr hB hx I (hV [] [] .nil .nil) q))
/-- x(e, .., k = v, ..) -/
theorem pe_ok (F : Fo g X.prog X.w X.K X.mg X.base CX k d ps sp) (hm : X.mg x = some (.ref (He.fAd X.K d.at_)))
    (hb : ∀ fd, FunD X.K d.name d.qual d.params d.body d.scope (d.dvs X.K) (d.kws X.K) (He.fAd X.K d.at_) fd → Bw X.K fd ps n ks gV)
    (hg : Gd g X.A) (hr : Room k X.A) (gl : Gl X x) (hx : Passes CX X E)
    (ha : PA X (e :: es) t) (hkw : PK X kws tk) (hall : (backToKw pos (keywordEach kws X.env)).all (·.1.isSome) = true := by rfl)
    (hks : (backToKw pos (keywordEach kws X.env)).filterMap (·.1) = ks := by rfl)
    (hdb : (x == ("__debug__" : Str)) = false := by decide) (he : starEach (e :: es) X.env = (false, eval e X.env) :: starEach es X.env := by rfl)
    (hpl : ((backTo pos (starEach (e :: es) X.env)).any (·.1) || (backToKw pos (keywordEach kws X.env)).any (·.1.isNone)) = false := by rfl) :
    PE X (.Call (.Name x p) (e :: es) kws pos) (tO n ks.length sp gV E t tk) := by
  obtain ⟨fd, F1, FD⟩ := F
  refine ⟨fun pins s σ H Q I h => wpAny_Call_Name_kw (ld_glob I gl hm ?_ hdb)⟩
  refine PySem.W.callWith_KW (h₀ := X.base) I.ok.mod.kin FD.kp hall (thn (ha.run pos pins s σ H _ I h) fun us s1 q => ?_) hpl he
  obtain ⟨vs, H1, I1, r, q⟩ := q
  refine thn (hkw.run pos pins s1 σ H1 _ I1 q) fun ws s2 q2 => ?_
  obtain ⟨ys, H2, I2, rz, l1, l2, q3⟩ := q2
  rw [hks]
  obtain ⟨zs, hB, hV⟩ := hb fd FD s2 us ws I2.kIn (r.length.symm.trans l1) (rz.length.symm.trans l2)
  exact ⟨I2.kIn, wpAny_call (run_fq F1 hg hr hB hx I2 (hV vs ys r rz) q3)⟩
/-- x(k = v, ..) -/
theorem pe_ok0 (F : Fo g X.prog X.w X.K X.mg X.base CX k d ps sp) (hm : X.mg x = some (.ref (He.fAd X.K d.at_)))
    (hb : ∀ fd, FunD X.K d.name d.qual d.params d.body d.scope (d.dvs X.K) (d.kws X.K) (He.fAd X.K d.at_) fd → Bw X.K fd ps 0 ks gV)
    (hg : Gd g X.A) (hr : Room k X.A) (gl : Gl X x) (hx : Passes CX X E)
    (hkw : PK X kws tk) (hall : (backToKw pos (keywordEach kws X.env)).all (·.1.isSome) = true := by rfl)
    (hks : (backToKw pos (keywordEach kws X.env)).filterMap (·.1) = ks := by rfl)
    (hdb : (x == ("__debug__" : Str)) = false := by decide)
    (hpl : ((backTo pos (starEach [] X.env)).any (·.1) || (backToKw pos (keywordEach kws X.env)).any (·.1.isNone)) = false := by rfl) :
    PE X (.Call (.Name x p) [] kws pos) (tO 0 ks.length sp gV E tNil tk) := by
  obtain ⟨fd, F1, FD⟩ := F
  refine ⟨fun pins s σ H Q I h => wpAny_Call_Name_kw (ld_glob I gl hm ?_ hdb)⟩
  refine PySem.W.callWith_KW0 (h₀ := X.base) I.ok.mod.kin FD.kp hall (thn (hkw.run pos pins s σ H _ I h) fun ws s2 q2 => ?_) hpl
  obtain ⟨ys, H2, I2, rz, l1, l2, q3⟩ := q2
  rw [hks]
  obtain ⟨zs, hB, hV⟩ := hb fd FD s2 [] ws I2.kIn rfl (rz.length.symm.trans l2)
  exact ⟨I2.kIn, wpAny_call (run_fq F1 hg hr hB hx I2 (hV [] ys .nil rz) q3)⟩
end
/-! ### the head's facts -/
abbrev AlX : Type := He.AlD × Bool
def obsXG (n : Nat) (fa : List He.Fa) (fn : List He.DefD) (ex : PySem.W.Frag → Bool) (g : Addr → Option Obj) : AlX :=
  (fun K => (He.obsD fa fn K, ex K)) (He.frG g (He.asD g n ++ [cStatics]))
/-- what is told of the written part -/
structure Says (fa : List He.Fa) (fn : List He.DefD) (ex : PySem.W.Frag → Bool) (K : PySem.W.Frag) : Prop where
  d : He.SaysD fa fn K
  more : ex K = true
def hookX (n : Nat) (fa : List He.Fa) (fn : List He.DefD) (ex : PySem.W.Frag → Bool) : PySem.W.Hook where
  α := AlX
  obs := fun s => obsXG n fa fn ex s.heap.get?
  val := fun _ => (He.valD fn, true)
  says := fun _ h => ∃ K : PySem.W.Frag, K.In h ∧ Says fa fn ex K
  of := fun _ _ e => ⟨_, He.frG_in, congrArg (fun z : AlX => z.1) e, congrArg (fun z : AlX => z.2) e⟩
  keeps := fun _ _ _ ⟨K, hK, c⟩ k => ⟨K, PySem.W.Frag.In.keeps hK k, c⟩
theorem obsXG_eq {n : Nat} {fa : List He.Fa} {fn : List He.DefD} {ex : PySem.W.Frag → Bool} {g : Addr → Option Obj} {s : Shared} (h : ∀ a, g a = s.heap.get? a) :
    obsXG n fa fn ex g = (hookX n fa fn ex).obs s := by
  have e : g = s.heap.get? := funext h
  rw [e]
  rfl
/-- the text's facts, with the module's names -/
structure Tx (fa : List He.Fa) (fn : List He.DefD) (ex : PySem.W.Frag → Bool) (K : PySem.W.Frag) (mg : Str → Option Value) : Prop where
  hp : ∃ h : Heap, K.In h ∧ h.Ns mainGlobals mg
  c : Says fa fn ex K
section
variable {fa : List He.Fa} {fn : List He.DefD} {ex : PySem.W.Frag → Bool} {K : PySem.W.Frag} {mg : Str → Option Value}
theorem Tx.fact (T : Tx fa fn ex K mg) (i : Nat) {f : He.Fa} (h : fa[i]? = some f := by rfl) : f.ok K = true := T.c.d.fact i h
theorem Tx.dfn (T : Tx fa fn ex K mg) (i : Nat) {d : He.DefD} (h : fn[i]? = some d := by rfl) :
    ∃ fd, FunD K d.name d.qual d.params d.body d.scope (d.dvs K) (d.kws K) (He.fAd K d.at_) fd := T.c.d.def_ i h
theorem Tx.glo (T : Tx fa fn ex K mg) (i : Nat) {x : Str} (h : fa[i]? = some (.glo x) := by rfl) : mg x = some (.ref (He.ga K x)) := by
  obtain ⟨hp, X, G⟩ := T.hp
  exact He.glo_ok X G (T.fact i h)
theorem Tx.free (T : Tx fa fn ex K mg) (i : Nat) {x : Str} (h : fa[i]? = some (.free x) := by rfl) : mg x = none := by
  obtain ⟨hp, X, G⟩ := T.hp
  exact He.free_ok X G (T.fact i h)
theorem Tx.str (T : Tx fa fn ex K mg) (i : Nat) {x z : Str} (h : fa[i]? = some (.str x z) := by rfl) : ∃ t, mg x = some (.str z t) := by
  obtain ⟨hp, X, G⟩ := T.hp
  exact He.str_ok X G (T.fact i h)
theorem Tx.int (T : Tx fa fn ex K mg) (i : Nat) {x : Str} {z : Int} (h : fa[i]? = some (.int x z) := by rfl) : ∃ t, mg x = some (.int z t) := by
  obtain ⟨hp, X, G⟩ := T.hp
  exact He.int_ok X G (T.fact i h)
end
section
variable {X : Cx} {x : Str} {pos : Pos}
theorem pe_gs {z : Str} (hg : Gl X x) (h : ∃ t, X.mg x = some (.str z t)) (hd : (x == ("__debug__" : Str)) = false := by decide) : PE X (.Name x pos) (tC (.str z)) := by
  obtain ⟨t, h⟩ := h
  exact pe_glob hg h ⟨t, rfl⟩ hd
theorem pe_gi {z : Int} (hg : Gl X x) (h : ∃ t, X.mg x = some (.int z t)) (hd : (x == ("__debug__" : Str)) = false := by decide) : PE X (.Name x pos) (tC (.int z)) := by
  obtain ⟨t, h⟩ := h
  exact pe_glob hg h ⟨t, rfl⟩ hd
theorem pe_gr {a : Addr} (hg : Gl X x) (h : X.mg x = some (.ref a)) (hd : (x == ("__debug__" : Str)) = false := by decide) : PE X (.Name x pos) (tC (.ref a)) := pe_glob hg h rfl hd
end
/-! ### C() by a positional promise of its __init__ -/
theorem pe_mk0 {X : Cx} {CX : CXT} {k : Nat} {f C : Addr} {sp : Sp} {E : XK} {x : Str} {p pos : Pos} (M : Mk X.K C f) (F : FnR X.prog X.w X.K X.mg X.base CX k f sp)
    (hr : Room (k + 1) X.A) (hg : Gl X x) (hm : X.mg x = some (.ref C)) (hx : Passes CX X E) (hdb : (x == ("__debug__" : Str)) = false := by decide) :
    PE X (.Call (.Name x p) [] [] pos) (StX.tMakeR C sp E tNil) := by
  refine ⟨fun pins s σ H Q I h => wpAny_Call_Name_kw (ld_glob I hg hm ?_ hdb)⟩
  exact PySem.W.callWith_K0 I.kIn M.kp (StX.run_makeR (us := []) M F hr hx I .nil h)
/-- def m(self, *rest) -/
theorem fn_star1 {CX : CXT} {P : Program} {w : World} {K : PySem.W.Frag} {mg : Str → Option Value} {base : Heap} {k : Nat} {f : Addr} {fd : FuncData} {N : List Str} {sp : Sp} {x qual p1 pv : Str} {params : Arguments} {body : List Stmt} {scope : Scope} {kws : List (Str × V)}
    (F : FunD K x qual params body scope [] kws f fd) (S : FnScope N [p1, pv] scope) (hCX : StX.CXUp CX)
    (h0 : ∀ (kV doc pm : Value) (an : Option Addr) (cdv ct : Value) (a : Value), bindArgs (PySem.W.fnOf x qual params body scope .none kV doc pm an cdv ct) ⟨[a], []⟩ = (newTuple [] >>= fun t => pure [(p1, a), (pv, t)]))
    (h1 : ∀ (kV doc pm : Value) (an : Option Addr) (cdv ct : Value) (a r : Value) (rs : List Value), bindArgs (PySem.W.fnOf x qual params body scope .none kV doc pm an cdv ct) ⟨a :: r :: rs, []⟩ = (newTuple (r :: rs) >>= fun t => pure [(p1, a), (pv, t)]))
    (hbody : ∀ (cdv : Value) (A : Around) (outer : List Env) (s : Shared) (H : Hp) (vs : List V) (Q : VK) (E : XK), Room k (A.deeper (envOfC qual scope s.heap.objs.size f cdv)) → sp vs H Q E →
      ∃ t, PSs (cxOf CX P w K mg base N qual scope f cdv A outer s H E) body t ∧ t { nx := fun _ H' => Q .non H', rt := Q } (start N vs) H) :
    FnR P w K mg base CX (k + 1) f (fun vs H Q E => ∃ (a : V) (rest : List V), vs = a :: rest ∧ rest.length ≤ sizeLine ∧ ∀ p, H p = none → sp [a, .ref p] (upd H p (.tup rest)) Q E) := by
  obtain ⟨oc, od, dV, kV, doc, pm, an, cdv, ct, osl, rfl, lk, hcd, hD, _⟩ := F.ex
  rcases hD with ⟨_, rfl⟩ | ⟨e, _⟩
  · refine FnR.imp (StX.fn_star (ps := [p1]) (pv := pv) (sp := sp) lk hcd S hCX (StX.bind_star1 (B := fun us => bindArgs (PySem.W.fnOf x qual params body scope .none kV doc pm an cdv ct) ⟨us, []⟩) (h0 kV doc pm an cdv ct) (h1 kV doc pm an cdv ct))
      (fun A outer s H vs Q E hr h => hbody cdv A outer s H vs Q E hr h)) fun vs H Q E h => ?_
    obtain ⟨a, rest, rfl, hz, q⟩ := h
    exact ⟨[a], rest, rfl, rfl, hz, q⟩
  · exact absurd rfl e
end Ab

set_option Elab.async false
set_option linter.all false
set_option maxRecDepth 100000
set_option maxHeartbeats 4000000
/-! AbB: frames, the drawn numbers, loops. -/
namespace Ab
open PySem PySem.Spec PyProof.Rows L2
/-- all that stands but r's object stays -/
def Fx (r : Addr) (H H' : Hp) : Prop := ∀ b o, b ≠ r → H b = some o → H' b = some o
/-- all that stands stays -/
abbrev Ex (H H' : Hp) : Prop := Same H H'
theorem Fx.refl {r : Addr} {H : Hp} : Fx r H H := fun _ _ _ e => e
theorem Fx.trans {r : Addr} {H H1 H2 : Hp} (a : Fx r H H1) (b : Fx r H1 H2) : Fx r H H2 := fun x o n e => b x o n (a x o n e)
theorem Fx.ex {r : Addr} {H H1 H2 : Hp} (a : Fx r H H1) (b : Ex H1 H2) : Fx r H H2 := fun x o n e => b x o (a x o n e)
theorem Ex.fx {r : Addr} {H H' : Hp} (a : Ex H H') : Fx r H H' := fun x o _ e => a x o e
theorem Ex.new {H : Hp} {p : Addr} {o : HO} (h : H p = none) : Ex H (upd H p o) := fun a u e => by
  rw [upd_ne (ne_of_none e h)]
  exact e
theorem Ex.keep {H H' : Hp} {p : Addr} {o : HO} (e : Ex H H') (h : H p = none) : Ex H (upd H' p o) := fun a u q => by
  rw [upd_ne (ne_of_none q h)]
  exact e a u q
theorem Fx.keep {r : Addr} {H H' : Hp} {p : Addr} {o : HO} (e : Fx r H H') (h : H p = none) : Fx r H (upd H' p o) := fun a u n q => by
  rw [upd_ne (ne_of_none q h)]
  exact e a u n q
theorem Fx.own {r : Addr} {H H' : Hp} {o : HO} (e : Fx r H H') : Fx r H (upd H' r o) := fun a u n q => by
  rw [upd_ne n]
  exact e a u n q
theorem Ex.none {H H' : Hp} (e : Ex H H') {p : Addr} (h : H' p = none) : H p = none := e.free h
/-- the drawn numbers' list stands at r -/
def Rng (r : Addr) (H : Hp) : Prop := ∃ a b : Int, H r = some (.lst [.int a, .int b]) ∧ 0 ≤ b ∧ b < 2147483648
theorem Rng.ex {r : Addr} {H H' : Hp} (h : Rng r H) (e : Ex H H') : Rng r H' := by
  obtain ⟨a, b, h1, h2⟩ := h
  exact ⟨a, b, e _ _ h1, h2⟩
theorem Rng.ne {r p : Addr} {H : Hp} (h : Rng r H) (n : H p = none) : p ≠ r := by
  obtain ⟨a, b, h1, _⟩ := h
  exact (ne_of_none h1 n).symm
/-- something was drawn: r's list is another one, all else stays -/
structure Dr (r : Addr) (H H' : Hp) : Prop where
  fx : Fx r H H'
  rg : Rng r H'
theorem Dr.refl {r : Addr} {H : Hp} (h : Rng r H) : Dr r H H := ⟨Fx.refl, h⟩
theorem Dr.trans {r : Addr} {H H1 H2 : Hp} (a : Dr r H H1) (b : Dr r H1 H2) : Dr r H H2 := ⟨a.fx.trans b.fx, b.rg⟩
theorem Dr.ex {r : Addr} {H H1 H2 : Hp} (a : Dr r H H1) (b : Ex H1 H2) : Dr r H H2 := ⟨a.fx.ex b, a.rg.ex b⟩
theorem Dr.new {r : Addr} {H : Hp} {p : Addr} {o : HO} (h : Rng r H) (n : H p = none) : Dr r H (upd H p o) := (Dr.refl h).ex (Ex.new n)
theorem Dr.get {r : Addr} {H H' : Hp} {p : Addr} {o : HO} (a : Dr r H H') (n : p ≠ r) (h : H p = some o) : H' p = some o := a.fx p o n h
theorem Dr.keep {r : Addr} {H H' : Hp} {p : Addr} {o : HO} (a : Dr r H H') (hr : Rng r H) (n : H p = none) : Dr r H (upd H' p o) := by
  obtain ⟨x, y, h1, h2⟩ := a.rg
  exact ⟨a.fx.keep n, x, y, by rw [upd_ne (hr.ne n).symm]; exact h1, h2⟩
theorem Dr.seqL {K : PySem.W.Frag} {r : Addr} {H H' : Hp} {p : Addr} {xs : List V} (a : Dr r H H') (n : p ≠ r) (h : SqL K H p xs) : SqL K H' p xs := by
  rcases h with (h | ⟨o, h⟩) | h
  · exact .inl (.inl (a.get n h))
  · exact .inl (.inr ⟨o, a.get n h⟩)
  · exact .inr h
theorem ex_seqL {K : PySem.W.Frag} {H H' : Hp} {p : Addr} {xs : List V} (a : Ex H H') (h : SqL K H p xs) : SqL K H' p xs := by
  rcases h with (h | ⟨o, h⟩) | h
  · exact .inl (.inl (a _ _ h))
  · exact .inl (.inr ⟨o, a _ _ h⟩)
  · exact .inr h
theorem ex_seqT {K : PySem.W.Frag} {H H' : Hp} {p : Addr} {xs : List V} (a : Ex H H') (h : SqT K H p xs) : SqT K H' p xs := by
  rcases h with (h | ⟨o, h⟩) | h
  · exact .inl (.inl (a _ _ h))
  · exact .inl (.inr ⟨o, a _ _ h⟩)
  · exact .inr h
theorem dr_seqT {K : PySem.W.Frag} {r : Addr} {H H' : Hp} {p : Addr} {xs : List V} (a : Dr r H H') (n : p ≠ r) (h : SqT K H p xs) : SqT K H' p xs := by
  rcases h with (h | ⟨o, h⟩) | h
  · exact .inl (.inl (a.get n h))
  · exact .inl (.inr ⟨o, a.get n h⟩)
  · exact .inr h
/-! ### what the drawing defs promise -/
def spRng (K : PySem.W.Frag) : Sp := fun vs H Q _ => ∃ (a : Addr) (ns : List Int) (k : Int), vs = [.ref a, .int k] ∧ SqL K H a (ns.map V.int) ∧ 0 ≤ k ∧ k ≤ 1000 ∧
  ∀ (p : Addr) (H' : Hp), H p = none → Ex H H' → Rng p H' → Q (.ref p) H'
def spDraw : Sp := fun vs H Q _ => ∃ (r : Addr) (m : Int), vs = [.ref r, .int m] ∧ Rng r H ∧ 0 < m ∧ m ≤ 100000 ∧
  ∀ (k : Int) (H' : Hp), 0 ≤ k → k < m → Dr r H H' → Q (.int k) H'
def spChoice (K : PySem.W.Frag) : Sp := fun vs H Q _ => ∃ (r a : Addr) (xs : List V), vs = [.ref r, .ref a] ∧ Rng r H ∧ a ≠ r ∧ SqL K H a xs ∧ xs ≠ [] ∧ xs.length ≤ 100000 ∧
  ∀ (v : V) (H' : Hp), v ∈ xs → Dr r H H' → Q v H'
/-- of a text -/
def spChoiceS : Sp := fun vs H Q _ => ∃ (r : Addr) (z : Str), vs = [.ref r, .str z] ∧ Rng r H ∧ z.cps.toList ≠ [] ∧ z.cps.toList.length ≤ 100000 ∧
  ∀ (c : Nat) (H' : Hp), c ∈ z.cps.toList → Dr r H H' → Q (.str ⟨#[c]⟩) H'
/-! ### texts times numbers -/
theorem str_fold (k : Nat) (a acc : Array Nat) : ((List.replicate k a).foldl (· ++ ·) acc).toList = acc.toList ++ (List.replicate k a.toList).flatten := by
  induction k generalizing acc with
  | zero => simp
  | succ k ih => rw [List.replicate_succ, List.foldl_cons, ih]; simp [List.replicate_succ]
/-- a text so many times -/
def repS (z : Str) (n : Nat) : Str := ⟨(List.replicate n z.cps.toList).flatten.toArray⟩
theorem repS_len (z : Str) (n : Nat) : (repS z n).cps.toList.length = n * z.cps.toList.length := by
  unfold repS
  simp
def rRepS : R2 := fun x y H Q => ∃ (z : Str) (n : Int), x = .str z ∧ y = .int n ∧ 0 ≤ n ∧ n ≤ 100000 ∧ z.cps.toList.length * n.toNat ≤ 1000000 ∧ Q (.str (repS z n.toNat)) H
theorem op_repS {X : Cx} : OpR X (binaryOp .Mult) rRepS := by
  intro pins s σ H x y v u Q I rx ry h
  obtain ⟨z, n, rfl, rfl, h0, h1, h2, q⟩ := h
  obtain ⟨t, rfl⟩ := rx
  obtain ⟨t', rfl⟩ := ry
  have lz : z.length = z.cps.toList.length := by show z.cps.size = _; simp
  have h3 : z.length * n.toNat ≤ 1000000 := by rw [lz]; exact h2
  refine PySem.P.mul_str (by simp; omega) (fun h4 _ => ?_) (fun _ _ => ?_) ?_
  · intro hc
    have e : (z.length : Int) * n ≤ 1000000 := by
      have : ((z.length * n.toNat : Nat) : Int) ≤ 1000000 := by omega
      rw [Int.natCast_mul, Int.toNat_of_nonneg h0] at this
      exact this
    have hn : 0 < n := by omega
    have := (Int.lt_iff_add_one_le).mp hc
    have h5 : (2 ^ 63 - 1) / n + 1 ≤ (z.length : Int) := this
    have h6 : 2 ^ 63 - 1 < n * ((2 ^ 63 - 1) / n + 1) := by
      have := Int.lt_mul_ediv_self_add (x := (2 ^ 63 - 1 : Int)) hn
      rw [Int.mul_add, Int.mul_one]
      exact this
    have h7 : n * ((2 ^ 63 - 1) / n + 1) ≤ n * (z.length : Int) := Int.mul_le_mul_of_nonneg_left h5 h0
    rw [Int.mul_comm] at e
    have : (2 ^ 63 - 1 : Int) < 1000000 := by omega
    exact absurd this (by decide)
  · unfold Builtin.Str.tooLong
    have : z.length * n.toNat ≤ sizeLine := Nat.le_trans h3 (by decide)
    first | simp; omega | (rw [decide_eq_false (by omega)]) | omega
  · by_cases c1 : n < 1
    · rw [if_pos c1]
      have : n.toNat = 0 := by omega
      refine ⟨by decide, ⟨.str (repS z n.toNat), H, I.tok _, ?_, q⟩⟩
      exact ⟨_, by rw [this]; rfl⟩
    · rw [if_neg c1]
      by_cases c2 : (n == 1 || z.length == 0) = true
      · rw [if_pos c2]
        refine ⟨.str (repS z n.toNat), H, I, ?_, q⟩
        have e : z = repS z n.toNat := by
          have : z.cps = (repS z n.toNat).cps := by
            apply Array.ext'
            simp only [Bool.or_eq_true, beq_iff_eq] at c2
            rcases c2 with c2 | c2
            · subst c2; simp [repS]
            · rw [lz] at c2
              have c3 := List.length_eq_zero_iff.mp c2
              simp [repS, c3]
          exact congrArg PySem.Str.mk this
        exact ⟨t, by rw [← e]⟩
      · rw [if_neg c2]
        have ez : (⟨(List.replicate n.toNat z.cps).foldl (· ++ ·) #[]⟩ : Str) = repS z n.toNat := by
          unfold repS
          congr 1
          apply Array.ext'
          rw [str_fold]; simp
        refine ⟨?_, ⟨.str (repS z n.toNat), H, I.tok _, ⟨s.toks, by rw [ez]⟩, q⟩⟩
        · show _ ≤ _
          have e : ((List.replicate n.toNat z.cps).foldl (· ++ ·) #[]).toList.length = n.toNat * z.cps.toList.length := by rw [str_fold]; simp
          have : ((List.replicate n.toNat z.cps).foldl (· ++ ·) #[]).size ≤ 1000000 := by
            rw [← Array.length_toList, e, Nat.mul_comm]; exact h2
          exact Nat.le_trans this (by decide)
end Ab
namespace Ab
open PySem PySem.Spec PyProof.Rows L2 TL
theorem cx_K {CX : CXT} {P : Program} {w : World} {K : PySem.W.Frag} {mg : Str → Option Value} {base : Heap} {N : List Str} {qual : Str} {scope : Scope} {f : Addr} {cd : Value} {A : Around} {outer : List Env} {s : Shared} {H : Hp} {E : XK} :
    (cxOf CX P w K mg base N qual scope f cd A outer s H E).K = K := rfl
theorem cx_Kn {CX : CXT} {P : Program} {w : World} {K : PySem.W.Frag} {mg : Str → Option Value} {base : Heap} {N : List Str} {qual : Str} {scope : Scope} {f : Addr} {cd : Value} {A : Around} {outer : List Env} {s : Shared} {H : Hp} {E : XK} :
    (Cx.nox (cxOf CX P w K mg base N qual scope f cd A outer s H E)).K = K := rfl
theorem scal_ii {i j : Int} : scal (.int i) (.int j) = true := rfl
theorem scal_ss {i j : Str} : scal (.str i) (.str j) = true := rfl
theorem scal_bb {i j : Bool} : scal (.bl i) (.bl j) = true := rfl
theorem scal_nn : scal .non .non = true := rfl
theorem scal_is {i : Int} {j : Str} : scal (.int i) (.str j) = true := rfl
theorem scal_si {i : Str} {j : Int} : scal (.str i) (.int j) = true := rfl
theorem start_eq (N : List Str) (vs : List V) : L2.start N vs = vs.map some ++ List.replicate (N.length - vs.length) none := rfl
/-! ### texts as lists of codes -/
abbrev cs (z : Str) : List Nat := z.cps.toList
theorem repS_mem {z : Str} {n c : Nat} (h : c ∈ cs (repS z n)) : c ∈ cs z := by
  have h' : c ∈ (List.replicate n z.cps.toList).flatten := by simpa [cs, repS] using h
  obtain ⟨l, hl, hc⟩ := List.mem_flatten.mp h'
  rw [(List.mem_replicate.mp hl).2] at hc
  exact hc
theorem cs_len (z : Str) : z.length = (cs z).length := by show z.cps.size = _; simp
theorem cs_app (a b : Str) : cs (a ++ b) = cs a ++ cs b := by
  show (a.cps ++ b.cps).toList = _
  simp
theorem cs_app_len (a b : Str) : (cs (a ++ b)).length = (cs a).length + (cs b).length := by rw [cs_app, List.length_append]
theorem cs_inj {a b : Str} (h : cs a = cs b) : a = b := by
  cases a; cases b
  have : (⟨_⟩ : Str) = ⟨_⟩ := congrArg PySem.Str.mk (Array.ext' h)
  exact this
theorem joinL_nil : ∀ ps : List (List Nat), joinL [] ps = ps.flatten
  | [] => rfl
  | [p] => by simp [joinL]
  | p :: q :: r => by
    show p ++ ([] ++ joinL [] (q :: r)) = _
    rw [joinL_nil (q :: r)]; simp
theorem cs_join0 (ys : List Str) : cs (Txt.join "" ys) = (ys.map cs).flatten := by
  rw [join_eq]
  have e := tl_join "" ys
  have e0 : tl ("" : Str) = [] := by decide +kernel
  rw [e0, joinL_nil] at e
  exact e
theorem strs_of {p : Str → Prop} : ∀ {ys : List V}, (∀ (i : Nat) y, ys[i]? = some y → ∃ z : Str, y = .str z ∧ p z) → ∃ zs : List Str, ys = zs.map V.str ∧ ∀ z ∈ zs, p z
  | [], _ => ⟨[], rfl, fun z h => by cases h⟩
  | y :: ys, h => by
    obtain ⟨z, e, hz⟩ := h 0 y rfl
    obtain ⟨zs, e2, h2⟩ := strs_of (ys := ys) fun i y' q => h (i + 1) y' (by simpa using q)
    refine ⟨z :: zs, by rw [e, e2]; rfl, fun u hu => ?_⟩
    rcases List.mem_cons.mp hu with rfl | hu
    · exact hz
    · exact h2 u hu
/-- pieces of one sign each -/
theorem ones_sum {L : List Nat} : ∀ {zs : List Str}, (∀ z ∈ zs, ∃ c ∈ L, z = ⟨#[c]⟩) → (zs.map (·.length)).sum = zs.length ∧ (zs.map cs).flatten.length = zs.length ∧ ∀ c ∈ (zs.map cs).flatten, c ∈ L
  | [], _ => ⟨rfl, rfl, fun c h => by cases h⟩
  | z :: zs, h => by
    obtain ⟨h1, h2, h3⟩ := ones_sum (zs := zs) fun u hu => h u (List.mem_cons_of_mem _ hu)
    obtain ⟨c, hc, e⟩ := h z (List.mem_cons_self ..)
    subst e
    refine ⟨?_, ?_, fun d hd => ?_⟩
    · rw [List.map_cons, List.sum_cons, h1, List.length_cons]
      show 1 + zs.length = zs.length + 1
      omega
    · rw [List.map_cons, List.flatten_cons, List.length_append, h2, List.length_cons]
      show 1 + zs.length = zs.length + 1
      omega
    · rw [List.map_cons, List.flatten_cons] at hd
      rcases List.mem_append.mp hd with hd | hd
      · have : d = c := by simpa using hd
        rw [this]; exact hc
      · exact h3 d hd
end Ab

set_option Elab.async false
set_option linter.all false
set_option maxRecDepth 100000
set_option maxHeartbeats 4000000
/-! AbC: comprehensions. -/
namespace Ab
open PySem PySem.Spec PyProof.Rows L2
/-- all that stands but what M names stays -/
def Fz (M : Addr → Prop) (H H' : Hp) : Prop := ∀ b o, ¬ M b → H b = some o → H' b = some o
theorem Fz.refl {M : Addr → Prop} {H : Hp} : Fz M H H := fun _ _ _ e => e
theorem Fz.trans {M : Addr → Prop} {H H1 H2 : Hp} (a : Fz M H H1) (b : Fz M H1 H2) : Fz M H H2 := fun x o n e => b x o n (a x o n e)
theorem Fz.keep {M : Addr → Prop} {H H' : Hp} {p : Addr} {o : HO} (e : Fz M H H') (h : H p = none) : Fz M H (upd H' p o) := fun a u n q => by
  rw [upd_ne (ne_of_none q h)]
  exact e a u n q
abbrev Mr (r : Addr) : Addr → Prop := fun b => b = r
abbrev M0 : Addr → Prop := fun _ => False
theorem Dr.fz {r : Addr} {H H' : Hp} (d : Dr r H H') : Fz (Mr r) H H' := fun b o n e => d.fx b o n e
theorem ex_fz {H H' : Hp} (d : Ex H H') : Fz M0 H H' := fun b o _ e => d b o e
theorem fz_ex {H H' : Hp} (d : Fz M0 H H') : Ex H H' := fun b o e => d b o (fun z => z) e
theorem fz_dr {r : Addr} {H H' : Hp} (d : Fz (Mr r) H H') (h : Rng r H') : Dr r H H' := ⟨fun b o n e => d b o n e, h⟩
/-- all that is new since B stays -/
def Kp (B H H' : Hp) : Prop := ∀ b o, B b = none → H b = some o → H' b = some o
theorem Kp.of_ex {B H H' : Hp} (e : Ex H H') : Kp B H H' := fun b o _ q => e b o q
theorem Kp.of_dr {r : Addr} {B H H' : Hp} (hr : B r ≠ none) (d : Dr r H H') : Kp B H H' := fun b o n q => d.fx b o (fun z => hr (z ▸ n)) q
theorem Kp.of_fz {M : Addr → Prop} {B H H' : Hp} (hm : ∀ b, M b → B b ≠ none) (d : Fz M H H') : Kp B H H' := fun b o n q => d b o (fun z => hm b z n) q
theorem upd_some {H : Hp} {a b : Addr} {o : HO} (h : H b ≠ none) : upd H a o b ≠ none := by
  unfold upd
  split
  · exact nofun
  · exact h
theorem upd_none {H : Hp} {a b : Addr} {o : HO} (h : upd H a o b = none) : b ≠ a ∧ H b = none := by
  unfold upd at h
  split at h
  · cases h
  · rename_i n; exact ⟨n, h⟩
/-- what is not in a later heap was not in the earlier one -/
theorem base_dr {r D : Addr} {H1 H : Hp} {o : HO} (d : Dr r H1 H) (hD : H D ≠ none) {b : Addr} (h : H b = none) : upd H1 D o b = none := by
  have n1 : b ≠ D := fun z => hD (z ▸ h)
  rw [upd_ne n1]
  cases e : H1 b with
  | none => rfl
  | some u =>
    have n2 : b ≠ r := (d.rg.ne h)
    rw [d.fx b u n2 e] at h
    cases h
theorem base_ex {D : Addr} {H1 H : Hp} {o : HO} (d : Ex H1 H) (hD : H D ≠ none) {b : Addr} (h : H b = none) : upd H1 D o b = none := by
  have n1 : b ≠ D := fun z => hD (z ▸ h)
  rw [upd_ne n1]
  exact d.free h
/-- a comprehension's reading behind its iterable -/
def LcF (J : It) (g : TG) (tt : TT) (te : TE) (vs : List Nat) (σ : L2.St) (H1 : Hp) (Q : VK) : Prop := ∀ D, H1 D = none → ∃ W : Nat → Nat → Hp → Prop, (∃ m, W 0 m (upd H1 D (.lst []))) ∧ ∀ i m H, W i m H →
  (J.stop i H ∧ Q (.ref D) H) ∨ (J.go i H ∧ ∃ Nx : Hp → Prop, (∀ H', Nx H' → ∃ m', m' < m ∧ W (i + 1) m' H') ∧ ∀ x H', J.yld i H x H' → g x (wipe σ vs) H' fun σ2 H2 => wipe σ2 vs = wipe σ vs ∧ tt σ2 H2 fun b H3 =>
    if b = true then te σ2 H3 fun y H4 => ∃ acc, H4 D = some (.lst acc) ∧ acc.length < sizeLine ∧ Nx (upd H4 D (.lst (acc ++ [y]))) else Nx H3)
theorem tLc_eq {wi : TI} {g : TG} {tt : TT} {te : TE} {vs : List Nat} {σ : L2.St} {H : Hp} {Q : VK} : tLc wi g tt te vs σ H Q = wi σ H fun J H1 => LcF J g tt te vs σ H1 Q := rfl
/-- a loop's reading behind its iterable -/
def ForF (J : It) (g : TG) (tb : TS) (D : Ends) (σ : L2.St) (H1 : Hp) : Prop := ∃ W : Nat → Nat → L2.St → Hp → Prop, (∃ m, W 0 m σ H1) ∧ ∀ i m σ H, W i m σ H →
  (J.stop i H ∧ D.nx σ H) ∨ (J.go i H ∧ ∃ N : L2.St → Hp → Prop, (∀ σ' H', N σ' H' → ∃ m', m' < m ∧ W (i + 1) m' σ' H') ∧ ∀ x H', J.yld i H x H' → g x σ H' fun σ2 H2 => tb { D with nx := N, ct := N, bk := D.nx } σ2 H2)
theorem tFor_eq {wi : TI} {g : TG} {tb : TS} {D : Ends} {σ : L2.St} {H : Hp} : tFor wi g tb D σ H = wi σ H fun J H1 => ForF J g tb D σ H1 := rfl
theorem for_f {J : It} {n : Nat} {G : Hp → Prop} {Y : Nat → Hp → V → Hp → Prop} (w : Walk J n G Y) {g : TG} {tb : TS} {D : Ends} {σ : L2.St} {H : Hp} (Pv : Nat → L2.St → Hp → Prop) (h0 : Pv 0 σ H) (hG : ∀ i σ H, i ≤ n → Pv i σ H → G H)
    (hs : ∀ i x σ H H', i < n → Pv i σ H → Y i H x H' → g x σ H' fun σ2 H2 => tb { D with nx := Pv (i + 1), ct := Pv (i + 1), bk := D.nx } σ2 H2) (hd : ∀ σ H, Pv n σ H → D.nx σ H) : ForF J g tb D σ H := for_it w Pv h0 hG hs hd
/-- a comprehension without a test, over anything that is walked -/
theorem lc_f {J : It} {n : Nat} {G : Hp → Prop} {Y : Nat → Hp → V → Hp → Prop} (w : Walk J n G Y) {g : TG} {te : TE} {vs : List Nat} {σ : L2.St} {H1 : Hp} {Q : VK}
    {M : Addr → Prop} {I : Hp → Prop} (hM : ∀ b, M b → H1 b ≠ none) (hI : ∀ H D o, H1 D = none → I H → I (upd H D o)) (I1 : I H1)
    (hG : ∀ H, Fz M H1 H → I H → G H) (hn : n < sizeLine) (E : Nat → Hp → Hp → V → Prop)
    (mono : ∀ i B H H' y, Kp B H H' → E i B H y → E i B H' y)
    (turn : ∀ D i x H H', i < n → H1 D = none → H D ≠ none → Fz M H1 H → I H → Y i H x H' → ∀ Qn : VK,
      (∀ y H4, Fz M H H4 → I H4 → E i (upd H1 D (.lst [])) H4 y → Qn y H4) → g x (wipe σ vs) H' fun σ2 H2 => wipe σ2 vs = wipe σ vs ∧ te σ2 H2 Qn)
    (done : ∀ D ys H, H1 D = none → Fz M H1 H → I H → H D = some (.lst ys) → ys.length = n → (∀ i y, ys[i]? = some y → E i (upd H1 D (.lst [])) H y) → Q (.ref D) H) :
    LcF J g tYes te vs σ H1 Q := by
  intro D hD
  have nM : ¬ M D := fun z => hM D z hD
  refine lc_it w (Qd := fun H => Q (.ref D) H) (fun i H => Fz M H1 H ∧ I H ∧ ∃ ys, H D = some (.lst ys) ∧ ys.length = i ∧ ∀ j y, ys[j]? = some y → E j (upd H1 D (.lst [])) H y)
    ⟨Fz.refl.keep hD, hI _ _ _ hD I1, [], upd_same, rfl, fun j y e => by simp at e⟩ (fun i H _ p => hG H p.1 p.2.1) ?_ ?_
  · rintro i x H H' hi ⟨p1, p2, ys, p3, p4, p5⟩ hY
    refine turn D i x H H' hi hD (by rw [p3]; exact nofun) p1 p2 hY (fun y H4 => ∃ acc, H4 D = some (.lst acc) ∧ acc.length < sizeLine ∧ (Fz M H1 (upd H4 D (.lst (acc ++ [y]))) ∧ I (upd H4 D (.lst (acc ++ [y]))) ∧
      ∃ ys, upd H4 D (.lst (acc ++ [y])) D = some (.lst ys) ∧ ys.length = i + 1 ∧ ∀ j z, ys[j]? = some z → E j (upd H1 D (.lst [])) (upd H4 D (.lst (acc ++ [y]))) z)) fun y H4 r1 r2 r3 => ?_
    have hD4 : H4 D = some (.lst ys) := r1 D _ nM p3
    have kp : Kp (upd H1 D (.lst [])) H H4 := Kp.of_fz (fun b z => upd_some (hM b z)) r1
    have kp2 : Kp (upd H1 D (.lst [])) H4 (upd H4 D (.lst (ys ++ [y]))) := fun b o z e => by
      rw [upd_ne (upd_none z).1]; exact e
    refine ⟨ys, hD4, by omega, (p1.trans r1).keep hD, hI _ _ _ hD r2, ys ++ [y], upd_same, by simp [p4], fun j z e => ?_⟩
    rcases Nat.lt_or_ge j ys.length with hj | hj
    · rw [List.getElem?_append_left hj] at e
      exact mono _ _ _ _ _ kp2 (mono _ _ _ _ _ kp (p5 j z e))
    · rw [List.getElem?_append_right hj] at e
      have e2 : j - ys.length = 0 := by
        rcases Nat.eq_zero_or_pos (j - ys.length) with h | h
        · exact h
        · rw [List.getElem?_eq_none (by simp; omega)] at e; cases e
      have e3 : z = y := by rw [e2] at e; simpa using e.symm
      have e4 : j = i := by omega
      subst e3 e4
      exact mono _ _ _ _ _ kp2 r3
  · rintro H ⟨p1, p2, ys, p3, p4, p5⟩
    exact done D ys H hD p1 p2 p3 p4 p5
/-! ### the walks -/
section
variable {K : PySem.W.Frag} {te : TE} {g : TG} {j : Nat} {vs : List Nat} {σ : L2.St} {H : Hp} {Q : VK}
/-- things being drawn, over anything -/
theorem lc_dr {J : It} {n : Nat} {G : Hp → Prop} {Y : Nat → Hp → V → Hp → Prop} (w : Walk J n G Y) {r : Addr} (hR : Rng r H) (hG : ∀ H', Dr r H H' → G H') (hn : n ≤ 100000)
    (E : Nat → Hp → Hp → V → Prop) (mono : ∀ i B H H' y, Kp B H H' → E i B H y → E i B H' y)
    (turn : ∀ D i x H' H2, i < n → H D = none → H' D ≠ none → Dr r H H' → Y i H' x H2 → ∀ Qn : VK, (∀ y H4, Dr r H' H4 → E i (upd H D (.lst [])) H4 y → Qn y H4) →
      g x (wipe σ vs) H2 fun σ2 H3 => wipe σ2 vs = wipe σ vs ∧ te σ2 H3 Qn)
    (done : ∀ D ys H', H D = none → Dr r H H' → H' D = some (.lst ys) → ys.length = n → (∀ i y, ys[i]? = some y → E i (upd H D (.lst [])) H' y) → Q (.ref D) H') :
    LcF J g tYes te vs σ H Q := by
  refine lc_f (M := Mr r) (I := Rng r) w (fun b z => ?_) (fun H' D o n h => ?_) hR (fun H' f i => hG H' (fz_dr f i)) (Nat.lt_of_le_of_lt hn (by decide)) E mono (fun D i x H2 H' hi hD hD2 f hI hY Qn k => ?_)
    fun D ys H' hD f hI hy hl he => done D ys H' hD (fz_dr f hI) hy hl he
  · obtain ⟨a, b', h1, _⟩ := hR
    rw [z, h1]
    exact nofun
  · obtain ⟨x, y, h1, h2⟩ := h
    exact ⟨x, y, by rw [upd_ne (hR.ne n).symm]; exact h1, h2⟩
  · exact turn D i x H2 H' hi hD hD2 (fz_dr f hI) hY Qn fun y H4 d e => k y H4 d.fz d.rg e
/-- nothing but new objects -/
theorem lc_ex {J : It} {n : Nat} {G : Hp → Prop} {Y : Nat → Hp → V → Hp → Prop} (w : Walk J n G Y) (hG : ∀ H', Ex H H' → G H') (hn : n ≤ 100000)
    (E : Nat → Hp → Hp → V → Prop) (mono : ∀ i B H H' y, Kp B H H' → E i B H y → E i B H' y)
    (turn : ∀ D i x H' H2, i < n → H D = none → H' D ≠ none → Ex H H' → Y i H' x H2 → ∀ Qn : VK, (∀ y H4, Ex H' H4 → E i (upd H D (.lst [])) H4 y → Qn y H4) →
      g x (wipe σ vs) H2 fun σ2 H3 => wipe σ2 vs = wipe σ vs ∧ te σ2 H3 Qn)
    (done : ∀ D ys H', H D = none → Ex H H' → H' D = some (.lst ys) → ys.length = n → (∀ i y, ys[i]? = some y → E i (upd H D (.lst [])) H' y) → Q (.ref D) H') :
    LcF J g tYes te vs σ H Q :=
  lc_f (M := M0) (I := fun _ => True) w (fun _ z => z.elim) (fun _ _ _ _ _ => trivial) trivial (fun H' f _ => hG H' (fz_ex f)) (Nat.lt_of_le_of_lt hn (by decide)) E mono
    (fun D i x H2 H' hi hD hD2 f _ hY Qn k => turn D i x H2 H' hi hD hD2 (fz_ex f) hY Qn fun y H4 d e => k y H4 (ex_fz d) trivial e)
    fun D ys H' hD f _ hy hl he => done D ys H' hD (fz_ex f) hy hl he
/-- the elements' values are known: f i -/
theorem lc_val {J : It} {n : Nat} {G : Hp → Prop} {Y : Nat → Hp → V → Hp → Prop} (w : Walk J n G Y) (hG : ∀ H', Ex H H' → G H') (hn : n ≤ 100000) (f : Nat → V)
    (turn : ∀ i x H' H2, i < n → Ex H H' → Y i H' x H2 → ∀ Qn : VK, (∀ H4, Ex H' H4 → Qn (f i) H4) →
      g x (wipe σ vs) H2 fun σ2 H3 => wipe σ2 vs = wipe σ vs ∧ te σ2 H3 Qn)
    (done : ∀ D H', H D = none → Ex H H' → H' D = some (.lst ((List.range n).map f)) → Q (.ref D) H') :
    LcF J g tYes te vs σ H Q := by
  refine lc_ex w hG hn (fun i _ _ y => y = f i) (fun _ _ _ _ _ _ e => e) (fun D i x H' H2 hi _ _ e hY Qn k => turn i x H' H2 hi e hY Qn fun H4 d => k _ H4 d rfl) fun D ys H' hD e hy hl he => done D H' hD e ?_
  rw [hy]
  congr 2
  apply List.ext_getElem?
  intro i
  by_cases hi : i < n
  · have h1 : i < ys.length := by omega
    have := he i ys[i] (by simp [h1])
    simp [h1, hi, this]
  · rw [List.getElem?_eq_none (by omega), List.getElem?_eq_none (by simp; omega)]
end
end Ab

set_option Elab.async false
set_option linter.all false
set_option maxRecDepth 100000
set_option maxHeartbeats 4000000
/-! AbD: further facts of the head, as Bools. -/
namespace Ab
open PySem PySem.Spec PyProof.Rows L2 He
/-- isinstance of an own class's instance and a built-in class: no -/
def kitF (K : PySem.W.Frag) (x : Str) (T : String) : Bool := decide (PySem.W.kitOne K (.ref (ga K x)) (.type T) = some false)
/-- what isinstance asks of an own class -/
def insB (K : PySem.W.Frag) (x : Str) : Bool := eqO (PySem.W.findIn K (.ref (ga K x)) "__class__") (some (some (.builtin "object.__class__"))) &&
  (eqO (PySem.W.specialIn K (.builtin "object.__class__") "__get__") (some (some (.builtin "getset_descriptor.__get__"))) && (decide (PySem.W.takesIn K (.builtin "object.__class__") = some true) &&
  decide (PySem.W.mroIn K (ga K x) (.type "object") = some true)))
theorem insB_ok {K : PySem.W.Frag} {x : Str} (h : insB K x = true) (c : Cls K (ga K x)) {H : Hp} {a dx : Addr} {fs : List (Str × V)} (e : H a = some (.ins (ga K x) dx fs)) : TyX K H (.ref a) (.ref (ga K x)) := by
  obtain ⟨h1, h⟩ := ba h
  obtain ⟨h2, h⟩ := ba h
  obtain ⟨h3, h4⟩ := ba h
  exact .base (.ins e c (eqO_ok h1) (eqO_ok h2) (of_decide_eq_true h3) (of_decide_eq_true h4))
/-- the class's attributes are read plainly -/
def readB (K : PySem.W.Frag) (x : Str) : Bool := PySem.W.readsIn K (ga K x) (.type "type") && eqO (PySem.W.specialIn K (.ref (ga K x)) "__getattribute__") (some (some (.builtin "type.__getattribute__")))
theorem readB_ok {K : PySem.W.Frag} {x : Str} (h : readB K x = true) : ClX.CRead K (ga K x) (.type "type") := by
  obtain ⟨h1, h2⟩ := ba h
  exact ⟨h1, eqO_ok h2⟩
/-- C.f is a whole number -/
def cvalB (K : PySem.W.Frag) (x f : Str) (i : Int) : Bool := match PySem.W.findCls K (.ref (ga K x)) (.type "type") f with
  | some (.val (.int j _)) => decide (j = i)
  | _ => false
theorem cvalB_ok {K : PySem.W.Frag} {x f : Str} {i : Int} (h : cvalB K x f i = true) : ∃ u, ClX.CVal K (ga K x) (.type "type") f (.int i) u := by
  unfold cvalB at h
  split at h
  · rename_i j t e
    have : j = i := of_decide_eq_true h
    subst this
    exact ⟨_, e, ⟨t, rfl⟩⟩
  · cases h
end Ab

set_option Elab.async false
set_option linter.all false
set_option maxRecDepth 100000
set_option maxHeartbeats 4000000
/-! AbR: repr at the hand's level, also of lists with own objects within. -/
namespace Ab
open PySem PySem.Spec PyProof.Rows L2
/-- u shows as t in every heap over H0; as: the containers that are opened; d: units; k: room -/
def RepJ (X : Cx) (k d : Nat) (as : List Addr) (H0 : Hp) (u : Value) (t : Str) : Prop :=
  ∀ (n : Nat), n + t.length ≤ sizeLine → ∀ (A : Around) (g : List Code) (E : Value → Shared → Prop) (pins : List (Addr × Obj)) (σ : L2.St) (H : Hp) (s : Shared) (Q : Str → Shared → Prop),
    A.frames = X.A.frames → Room k A → A.guards = some g → (∀ b ∈ as, Clear g b) → A.units + d < cLine → Ex H0 H → Inv X pins σ H s →
    (∀ H' s', Ex H H' → Inv X pins σ H' s' → Q t s') → wpAny (model X.prog X.w) A (pyReprUnder n u) Q E s
section
variable {X : Cx} {k d : Nat} {as : List Addr} {H0 : Hp} {u : Value} {t : Str}
theorem RepJ.ex (h : RepJ X k d as H0 u t) {H1 : Hp} (e : Ex H0 H1) : RepJ X k d as H1 u t :=
  fun n hn A g E pins σ H s Q a1 a2 a3 a4 a5 a6 => h n hn A g E pins σ H s Q a1 a2 a3 a4 a5 (e.trans a6)
theorem RepJ.more (h : RepJ X k d as H0 u t) {bs : List Addr} (e : ∀ b ∈ as, b ∈ bs) : RepJ X k d bs H0 u t :=
  fun n hn A g E pins σ H s Q a1 a2 a3 a4 => h n hn A g E pins σ H s Q a1 a2 a3 fun b hb => a4 b (e b hb)
theorem RepJ.le (h : RepJ X k d as H0 u t) {k' d' : Nat} (e : k ≤ k') (e' : d ≤ d') : RepJ X k' d' as H0 u t :=
  fun n hn A g E pins σ H s Q a1 a2 a3 a4 a5 => h n hn A g E pins σ H s Q a1 (a2.mono e) a3 a4 (by omega)
/-- plain data -/
theorem RepJ.ofK (h : ∀ (pins : List (Addr × Obj)) (σ : L2.St) (H : Hp) (s : Shared), Ex H0 H → Inv X pins σ H s → ReprK X.prog X.w as s.heap d u t) : RepJ X k d as H0 u t :=
  fun n hn A g E pins σ H s Q _ _ hg hcl hu e I q => h pins σ H s e I n hn A g E s Q hg hcl hu (fun _ _ z => z) fun h' tk kp => q H _ (Same.refl _) (I.kept kp)
theorem RepJ.is (h : ReprIs X.prog X.w u t) : RepJ X k d [] H0 u t := .ofK fun _ _ _ _ _ _ => ReprK.of_is h _ _ _
/-- an instance, by its class's own def -/
theorem RepJ.own {a C dx f : Addr} {fs : List (Str × V)} {fd : FuncData} {ps : List Str} {sp : Sp} (F : Fq false X.prog X.w X.K X.mg X.base CX0 k f fd ps sp) (hb : Bw X.K fd ps 1 [] gPos)
    (hs : PySem.W.findIn X.K (.ref C) "__repr__" = some (some (.ref f))) (hf : PySem.W.isFn X.K (.ref f) = true)
    (h : ∀ H, Ex H0 H → H a = some (.ins C dx fs) ∧ sp [.ref a] H (fun v H' => v = .str t ∧ Ex H H') E0) : RepJ X k d [] H0 (.ref a) t := by
  intro n hn A g E pins σ H s Q hfr hr hg hcl hu e I q
  obtain ⟨ha, hsp⟩ := h H e
  obtain ⟨mA, J, _⟩ := ins_get I.hok ha
  obtain ⟨od, J, _⟩ := J.look
  refine wpAny_pyReprUnder_ref (by omega) ?_
  unfold pyReprObjUnder pyReprObjBy
  refine wpAny_bind (wpAny_cRoomFor hr.units0 ?_)
  refine wpAny_bind (wpAny_bind (J.type.here ((PySem.W.looks_findIn I.kIn hs).here ?_)))
  simp only [Option.isNone_some, Bool.false_eq_true, if_false]
  have e0 : Env0 X.prog X.w X.K X.mg X.base A X.stack s H := ⟨hfr.trans I.ok.frames, I.env0.mod, I.env0.bs, I.env0.bsz, I.env0.funs, I.env0.frf, I.env0.hok, I.env0.bare⟩
  obtain ⟨zs, hB, hV⟩ := hb s [.ref a] [] I.kIn rfl rfl
  have run : wpAny (model X.prog X.w) A (call (.ref f) [.ref a]) (fun r s' => ∃ tk H', r = .str t tk ∧ Ex H H' ∧ Inv X pins σ H' s') E s := by
    refine wpAny_call (codeAny_mono (F.go A X.stack s H _ _ _ _ E0 gd_false hr e0 hB (hV [.ref a] [] (.cons rfl .nil) .nil) hsp) fun r s' hq => ?_)
    cases r with
    | error _ => exact hq.elim
    | ok fl =>
      cases fl with
      | ret w' =>
        obtain ⟨v, H', I', r', rfl, ex⟩ := I.after hq
        obtain ⟨tk, rfl⟩ := r'
        exact ⟨tk, H', rfl, ex, I'⟩
      | _ => exact hq.elim
  simp only [callSpecialIfBoundBy?, bindSpecialIfBound?]
  refine wpAny_bind (wpAny_holding (wpAny_bind (wpAny_bind (wpAny_bind (J.type.here ((PySem.W.looks_findIn I.kIn hs).here ?_))))))
  refine wpAny_bind (wpAny_askSetting (wpAny_ite ?_))
  have fin : ∀ (Q' : Option Value → Shared → Prop), (∀ r s', (∃ tk H', r = .str t tk ∧ Ex H H' ∧ Inv X pins σ H' s') → Q' (some r) s') → wpAny (model X.prog X.w) A (call (.ref f) ([.ref a] ++ []) >>= fun v => pure (some v)) Q' E s := fun Q' h' =>
    wpAny_bind (wpAny_mono run (fun v s' z => wpAny_pure (h' v s' z)) fun _ _ z => z)
  split
  · refine wpAny_bind ((PySem.W.bind_fn I.kIn _ (beq_iff_eq.mp hf)).here (wpAny_pure ?_))
    refine fin _ fun r s' z => ?_
    obtain ⟨tk, H', rfl, ex, I'⟩ := z
    exact wpAny_bind (wpAny_isInstance (T := "str") (b := true) rfl isSubtype_str_str (wpAny_pure ⟨_, _, rfl, q H' s' ex I'⟩))
  · refine wpAny_tryCatch (wpAny_bind ((PySem.W.bind_fn I.kIn _ (beq_iff_eq.mp hf)).here (wpAny_pure ?_)))
    refine fin _ fun r s' z => ?_
    obtain ⟨tk, H', rfl, ex, I'⟩ := z
    exact wpAny_bind (wpAny_isInstance (T := "str") (b := true) rfl isSubtype_str_str (wpAny_pure ⟨_, _, rfl, q H' s' ex I'⟩))
end
/-! ### lists -/
section
variable {X : Cx} {k d n : Nat} {as : List Addr} {H0 : Hp} {a : Addr} {vs : List V} {ts : List Str} {A : Around} {g : List Code}
theorem loop_units (A : Around) (z : Args) : (A.under (.builtin "list.__repr__.loop" z)).units = A.units + 1 := units_under_list_loop A z
theorem loop_frames (A : Around) (z : Args) : (A.under (.builtin "list.__repr__.loop" z)).frames = A.frames := by
  first | rfl | simp [Around.under, Code.envs, Code.isFrame, pushEnvs]
theorem loop_depth (A : Around) (z : Args) : (A.under (.builtin "list.__repr__.loop" z)).depth ≤ A.depth + 1 := by
  first | exact Nat.le_refl _ | exact Nat.le_succ _ | simp [Around.under, Code.weight, Code.isCreation, Code.isGuard, Code.isCaller, Code.frames, Code.isFrame, guardIds]
theorem loop_handled (A : Around) (z : Args) : (A.under (.builtin "list.__repr__.loop" z)).handled = A.handled := by
  first | rfl | simp [Around.under]
theorem room_loop (r : Room (k + 1) A) (z : Args) : Room k (A.under (.builtin "list.__repr__.loop" z)) :=
  ⟨(loop_handled A z).trans r.hd, by have := r.dp; have := loop_depth A z; omega, by have := r.un; have := loop_units A z; omega⟩
/-- what the items come to -/
def Shw (X : Cx) (k d : Nat) (as : List Addr) (H0 : Hp) (vs : List V) (ts : List Str) : Prop :=
  ts.length = vs.length ∧ ∀ (i : Nat) (v : V), vs[i]? = some v → ∃ t, ts[i]? = some t ∧ ∀ u, RelV v u → RepJ X k d as H0 u t
theorem Shw.ex (h : Shw X k d as H0 vs ts) {H1 : Hp} (e : Ex H0 H1) : Shw X k d as H1 vs ts :=
  ⟨h.1, fun i v q => let ⟨t, h1, h2⟩ := h.2 i v q; ⟨t, h1, fun u r => (h2 u r).ex e⟩⟩
theorem Shw.nil : Shw X k d as H0 [] [] := ⟨rfl, fun i v q => by simp at q⟩
theorem Shw.cons {v : V} {t : Str} (h1 : ∀ u, RelV v u → RepJ X k d as H0 u t) (h2 : Shw X k d as H0 vs ts) : Shw X k d as H0 (v :: vs) (t :: ts) := by
  refine ⟨by simp [h2.1], fun i w q => ?_⟩
  cases i with
  | zero =>
    simp at q
    subst q
    exact ⟨t, rfl, h1⟩
  | succ i =>
    simp at q
    obtain ⟨t', e, r⟩ := h2.2 i w q
    exact ⟨t', by simpa using e, r⟩
def pO (acc : Array Value) (c : Nat) : Obj := { cls := .type "list", dict := none, data := .seq acc c, slots := #[] }
theorem vals_at : ∀ {xs : List V} {us : List Value} {i : Nat} {u : Value}, Vals xs us → us[i]? = some u → ∃ v, xs[i]? = some v ∧ RelV v u
  | _, _, i, u, .nil, e => by simp at e
  | _, _, 0, u, .cons r _, e => by
    simp at e
    subst e
    exact ⟨_, rfl, r⟩
  | _, _, i + 1, u, .cons _ q, e => by
    simp at e
    obtain ⟨v, h1, h2⟩ := vals_at q e
    exact ⟨v, by simpa using h1, h2⟩
open Builtin Builtin.List in
theorem rep_loop {P : Addr} {pins : List (Addr × Obj)} {σ : L2.St} {R : Result → Shared → Prop} (hne : a ≠ P) (rP : FbM.Rec X pins P) (hL : ∀ H, Ex H0 H → SqL X.K H a vs) (hfr : A.frames = X.A.frames) (hr : Room (k + 1) A)
    (hg : A.guards = some g) (hcl : ∀ b ∈ as, Clear g b) (hu : A.units + (d + 1) < cLine) (hna : a ∉ as) (hT : Shw X k d as H0 vs ts) (hsz : n + (listText ts).length ≤ sizeLine) :
    ∀ (m i : Nat) (s : Shared) (H : Hp) (acc : Array Value) (c : Nat) (done : List (Str × Tok)), vs.length - i = m → i ≤ vs.length → Ex H0 H → Inv X ((P, pO acc c) :: pins) σ H s →
      acc.toList = strValues done → done.map (·.1) = ts.take i → (∀ H' s' u, Ex H H' → Inv X pins σ H' s' → R (.ok (.ret (.str (listText ts) u))) s') →
      codeAny (model X.prog X.w) A (.builtin "list.__repr__.loop" ⟨[.ref a, rawInt i, .ref P, rawInt ((n + piled (ts.take i) : Nat) : Int)], []⟩) R s := by
  have z0 : (listText ts).length = (textFrom 0 "[" ts).length + 1 := by
    show (textFrom 0 "[" ts ++ "]").length = _
    rw [strLen_append]
    rfl
  have zL := textFrom_len ts 0 "["
  have z1 : vs.length ≤ sizeLine := by
    have h1 := zL.1
    rw [if_neg (Nat.lt_irrefl 0)] at h1
    have h2 := hT.1
    omega
  have z2 : ∀ t ∈ ts, t.length ≤ sizeLine := fun t ht => by
    have h2 := zL.2.1 t ht
    omega
  have z3 : (listText ts).length ≤ sizeLine := by omega
  have z4 := piled_le_listText ts
  intro m
  induction m with
  | zero =>
    intro i s H acc c done hm hi e0 I hacc hdone hR
    have hin : i = vs.length := by omega
    obtain ⟨its, rv, ⟨o, na, ho, hc, hd0, hd⟩, _⟩ := (ClX.unpin I).list (hL H e0)
    have hP := ClX.pin_at I
    refine codeAny_builtin F.entry_list_repr_loop ?_
    show wpAny _ _ («list.__repr__.loop» ⟨[.ref a, .int i 0, .ref P, .int ((n + piled (ts.take i) : Nat) : Int) 0], []⟩) _ _ s
    rw [repr_loop_tree]
    refine wpAny_bind (wpAny_listItems ho hd ?_)
    have q0 : its.toArray[(i : Int).toNat]? = none := by simp [hin, ← rv.length]
    simp only [q0]
    unfold reprEnd
    refine wpAny_bind (wpAny_listItems hP rfl ?_)
    rw [hacc, repr_fold]
    refine wpAny_bind (wpAny_pure ?_)
    have q1 : done.map (·.1) = ts := by rw [hdone, hin, ← hT.1, List.take_length]
    rw [q1]
    refine wpAny_bind (wpAny_mkStr (wpAny_pure ?_) z3)
    exact hR H _ _ (Same.refl _) ((ClX.unpin I).tok _)
  | succ m ih =>
    intro i s H acc c done hm hi e0 I hacc hdone hR
    have hlt : i < vs.length := by omega
    obtain ⟨its, rv, ⟨o, na, ho, hc, hd0, hd⟩, _⟩ := (ClX.unpin I).list (hL H e0)
    have hli : i < its.length := by rw [← rv.length]; exact hlt
    obtain ⟨v, hv, rvi⟩ := vals_at (i := i) (u := its[i]) rv (by simp [hli])
    obtain ⟨t, ht, hrep⟩ := hT.2 i v hv
    have hp1 := piled_take_succ ht
    have hp2 := piled_take_le ts (i + 1)
    refine codeAny_builtin F.entry_list_repr_loop ?_
    show wpAny _ _ («list.__repr__.loop» ⟨[.ref a, .int i 0, .ref P, .int ((n + piled (ts.take i) : Nat) : Int) 0], []⟩) _ _ s
    rw [repr_loop_tree]
    refine wpAny_bind (wpAny_listItems ho hd ?_)
    have q0 : its.toArray[(i : Int).toNat]? = some its[i] := by simp [hli]
    simp only [q0]
    rw [Int.toNat_natCast]
    refine wpAny_bind (wpAny_holding (hrep _ rvi (n + piled (ts.take i) + 1) (by omega) _ _ _ _ σ H s _ ((loop_frames _ _).trans hfr) (room_loop hr _) (guards_under_guard (isGuard_list_loop _) hg)
      (fun b hb => (hcl b hb).cons (a := a) fun e => hna (e ▸ hb)) (by rw [loop_units]; omega) e0 I fun H1 s1 ex1 I1 => ?_))
    refine wpAny_bind (wpAny_mkStr ?_ (z2 t (List.mem_of_getElem? ht)))
    refine wpAny_bind ?_
    show wpAny _ _ (updateSeq P _) _ _ _
    have hasz : acc.size ≤ sizeLine := by
      have e1 : acc.toList.length = acc.size := by simp
      have e2 : (strValues done).length = done.length := by simp [strValues]
      have e3 : done.length = (ts.take i).length := by rw [← hdone, List.length_map]
      have e4 : (ts.take i).length ≤ i := by rw [List.length_take]; omega
      rw [hacc] at e1
      omega
    have hP1 := ClX.pin_at I1
    refine wpAny_updateSeq hP1 rfl (wpAny_pure ⟨F.quiet_list_repr_loop _, ?_⟩) hasz
    have e1 : ((i : Int) + 1) = ((i + 1 : Nat) : Int) := by omega
    have e2 : n + piled (ts.take i) + (t.length + 2) = n + piled (ts.take (i + 1)) := by omega
    rw [e1, e2]
    have J : Inv X pins σ H1 { s1 with heap := s1.heap.update P (Obj.mapSeq fun x => x.push (.str t s1.toks)), toks := s1.toks + 1 } :=
      rP.turn (ClX.unpin I1) (ClX.pin_un I1) fun b o hb e => (Heap.get?_update_other _ _ fun h : P = b => hb h.symm).trans e
    have pinP := I1.pin (P, pO acc c) (List.mem_append_right _ List.mem_cons_self)
    have hP2 := Heap.get?_update_self (Obj.mapSeq fun x => x.push (.str t s1.toks)) hP1 rfl
    have J2 : Inv X ((P, Obj.mapSeq (fun x => x.push (.str t s1.toks)) (pO acc c)) :: pins) σ H1 { s1 with heap := s1.heap.update P (Obj.mapSeq fun x => x.push (.str t s1.toks)), toks := s1.toks + 1 } := by
      refine J.pins_of fun p hp => ?_
      rcases List.mem_cons.mp hp with e | e
      · subst e
        exact ⟨hP2, pinP.2.1, pinP.2.2.1, pinP.2.2.2.1, fun v z => nomatch z⟩
      · exact J.pin p (List.mem_append_right _ e)
    exact ih (i + 1) _ H1 (acc.push (.str t s1.toks)) _ (done ++ [(t, s1.toks)]) (by omega) hlt (e0.trans ex1) J2 (by simp [hacc, strValues]) (by simp [List.take_add_one, ht, hdone]) fun H' s' u e' I' => hR H' s' u (ex1.trans e') I'
open Builtin Builtin.List in
theorem rep_at {pins : List (Addr × Obj)} {σ : L2.St} {H : Hp} {s : Shared} {R : Result → Shared → Prop} (h0 : vs ≠ []) (hL : ∀ H, Ex H0 H → SqL X.K H a vs) (hfr : A.frames = X.A.frames) (hr : Room (k + 1) A)
    (hg : A.guards = some g) (hca : Clear g a) (hcl : ∀ b ∈ as, Clear g b) (hu : A.units + (d + 1) < cLine) (hna : a ∉ as) (hT : Shw X k d as H0 vs ts) (hsz : n + (listText ts).length ≤ sizeLine) (e0 : Ex H0 H) (I : Inv X pins σ H s)
    (hR : ∀ H' s' u, Ex H H' → Inv X pins σ H' s' → R (.ok (.ret (.str (listText ts) u))) s') :
    wpAny (model X.prog X.w) A.in1 (Builtin.listReprAt n ⟨[.ref a], []⟩) (fun fin s' => match fin with | .done f => R (.ok f) s' | .again c' => c'.quiet = true ∧ codeAny (model X.prog X.w) A c' R s') (fun e s' => R (.error e) s') s := by
  obtain ⟨its, rv, ⟨o, na, ho, hc, hd0, hd⟩, _⟩ := I.list (hL H e0)
  obtain ⟨x, l, rfl⟩ : ∃ x l, its = x :: l := by
    cases its with
    | nil => cases rv; exact absurd rfl h0
    | cons x l => exact ⟨x, l, rfl⟩
  refine wpAny_list_repr_head (A := A.in1) hg (fun v rest kw hm => listSameRef_of_ne (hca _ _ _ _ hm)) ho hd ?_
  refine wpAny_bind (m := newList []) (wpAny_newObj_type ?_)
  refine wpAny_pure ⟨F.quiet_list_repr_loop _, ?_⟩
  have J : Inv X ((s.heap.objs.size, pO #[] 0) :: pins) σ H { s with heap := s.heap.push (pO #[] 0) } :=
    ClX.pin_new (t' := s.toks) I (fun _ _ z => Heap.get?_push_of_some _ z) (Nat.le_refl _) (Heap.get?_push_size s.heap rfl) (fun v z => nomatch z)
  exact rep_loop (P := s.heap.objs.size) (pins := pins) (σ := σ) (Nat.ne_of_lt (Heap.lt_size ho)) (FbM.rec_new I (Nat.le_refl _)) hL hfr hr hg hcl hu hna hT hsz _ 0 _ H #[] 0 [] rfl (Nat.zero_le _) e0 J rfl (by simp) hR
/-- a list's repr, called -/
theorem call_rep {pins : List (Addr × Obj)} {σ : L2.St} {H : Hp} {s : Shared} {Q : Value → Shared → Prop} {E : Value → Shared → Prop} (h0 : vs ≠ []) (hL : ∀ H, Ex H0 H → SqL X.K H a vs) (hfr : A.frames = X.A.frames) (hr : Room (k + 1) A)
    (hg : A.guards = some g) (hca : Clear g a) (hcl : ∀ b ∈ as, Clear g b) (hu : A.units + (d + 1) < cLine) (hna : a ∉ as) (hT : Shw X k d as H0 vs ts) (hsz : (listText ts).length ≤ sizeLine) (e0 : Ex H0 H) (I : Inv X pins σ H s)
    (hQ : ∀ H' s' u, Ex H H' → Inv X pins σ H' s' → Q (.str (listText ts) u) s') : wpAny (model X.prog X.w) A (call (.builtin "list.__repr__") [.ref a]) Q E s := by
  obtain ⟨its, rv, ⟨o, na, ho, hc, hd0, hd⟩, _⟩ := I.list (hL H e0)
  exact wpAny_call (codeAny_call_builtin F.slot_list_repr.plain F.entry_list_repr (F.slot_list_repr.check _ _ _ _ _ _ _ _ ⟨o, ho, hc⟩ (F.args_list_repr_1 _)
    (rep_at (n := 0) (R := callEnd Q E) h0 hL hfr hr hg hca hcl hu hna hT (by omega) e0 I hQ)))
theorem RepJ.list (h0 : vs ≠ []) (hL : ∀ H, Ex H0 H → SqL X.K H a vs) (hna : a ∉ as) (hT : Shw X k d as H0 vs ts) : RepJ X (k + 1) (d + 1) (a :: as) H0 (.ref a) (listText ts) := by
  intro n hn A g E pins σ H s Q hfr hr hg hcl hu e I q
  obtain ⟨its, rv, ⟨o, na, ho, hc, hd0, hd⟩, _⟩ := I.list (hL H e)
  refine wpAny_pyReprUnder_ref (by omega) (wpAny_pyReprObjUnder_twin (twin := "list.__repr__.under") ⟨o, ho, hc⟩ F.slot_list_repr.toG rfl (by omega) ?_)
  refine call_twin_plain F.plain_list_repr_under F.entry_list_repr_under F.check_list_repr_under ⟨o, ho, hc⟩ F.slot_list_repr.toG (F.args_list_repr_1 _) ?_
  exact rep_at (R := callEnd _ E) h0 hL hfr hr hg (hcl a (.head _)) (fun b hb => hcl b (.tail _ hb)) hu hna hT hn e I fun H' s' u ex I' => ⟨⟨_, _, rfl⟩, _, _, rfl, q H' s' ex I'⟩
/-- repr of a list -/
def rReprL (X : Cx) (k d : Nat) (xs : List V) (H : Hp) (Q : VK) : Prop := ∃ (a : Addr) (vs : List V) (as : List Addr) (ts : List Str), xs = [.ref a] ∧ vs ≠ [] ∧ H a = some (.lst vs) ∧ a ∉ as ∧ Shw X k d as H vs ts ∧ (listText ts).length ≤ sizeLine ∧
  ∀ H', Ex H H' → Q (.str (listText ts)) H'
theorem call_repr (hg : X.A.guards = some []) (hr : Room (k + 2) X.A) (hd : d ≤ 100) : CallR X (.builtin "repr") (rReprL X k d) := by
  intro pins s σ H xs us Q I r h
  obtain ⟨a, vs, as, ts, rfl, h0, ha, hna, hT, hsz, q⟩ := h
  obtain ⟨u, rfl, ru⟩ := vals1 r
  cases ru
  have hL : ∀ H', Ex H H' → SqL X.K H' a vs := fun H' e => SqL.of (e _ _ ha)
  obtain ⟨its, rv, ⟨o, na, ho, hc, hd0, hd'⟩, _⟩ := I.list (hL H (Same.refl _))
  have hun := hr.un
  refine call_repr_slot (by omega) ⟨o, ho, hc⟩ F.slot_list_repr.toG ?_
  exact call_rep (g := []) (X := X) h0 hL rfl hr.in1 hg (Clear.nil _) (fun b _ => Clear.nil b) (show X.A.units + 1 + (d + 1) < cLine by omega) hna hT hsz (Same.refl _) I fun H' s' u ex I' => ⟨_, _, rfl, .str (listText ts), H', I', ⟨_, rfl⟩, q H' ex⟩
end
theorem call_repr_str {X : Cx} : CallR X (.builtin "repr") (fun xs H Q => ∃ z : Str, xs = [.str z] ∧ (reprText z).length ≤ sizeLine ∧ Q (.str (reprText z)) H) := by
  intro pins s σ H xs us Q I r h
  obtain ⟨z, rfl, hz, q⟩ := h
  obtain ⟨u, rfl, t, rfl⟩ := vals1 r
  exact PySem.P.repr_of_str ⟨.str _, H, I.tok _, ⟨_, rfl⟩, q⟩ hz
/-! ### flat values, and containers of them -/
def flT : V → Str
  | .non => "None"
  | .bl b => (if b then "True" else "False" : String)
  | .int i => (toString i : String)
  | .str z => reprText z
  | _ => ""
def FlV : V → Prop
  | .non => True
  | .bl _ => True
  | .int i => i.natAbs.log2 < 1920
  | .str z => (reprText z).length ≤ 5000
  | _ => False
section
variable {X : Cx} {k d : Nat} {H0 : Hp} {a : Addr} {prog : Program} {w : World}
theorem fl_is {v : V} {u : Value} (h : FlV v) (r : RelV v u) : ReprIs prog w u (flT v) := by
  cases v with
  | non => cases r; exact ReprIs.none
  | bl b =>
    cases r
    cases b <;> exact ReprIs.bool _
  | int i => obtain ⟨t, rfl⟩ := r; exact ReprIs.int t h
  | str z => obtain ⟨t, rfl⟩ := r; exact ReprIs.str z t (Nat.le_trans h (by decide))
  | _ => exact h.elim
theorem RepJ.flat {v : V} (h : FlV v) : ∀ u, RelV v u → RepJ X k d [] H0 u (flT v) := fun _ r => .is (fl_is h r)
theorem Shw.flat {as : List Addr} : ∀ {vs : List V}, (∀ v ∈ vs, FlV v) → Shw X k d as H0 vs (vs.map flT)
  | [], _ => .nil
  | v :: vs, h => .cons (fun u r => (RepJ.flat (h v List.mem_cons_self) u r).more fun b hb => nomatch hb) (Shw.flat fun x hx => h x (List.mem_cons_of_mem _ hx))
theorem RepJ.nilL (h : H0 a = some (.lst [])) : RepJ X k d [] H0 (.ref a) "[]" := .ofK fun pins σ H s e I => by
  obtain ⟨its, rv, ⟨o, na, ho, hc, hd0, hd⟩, _⟩ := I.list (SqL.of (K := X.K) (e _ _ h))
  cases rv
  exact ReprK.listEmpty ho hc hd
theorem RepJ.flatL {vs : List V} (h : H0 a = some (.lst vs)) (h0 : vs ≠ []) (hf : ∀ v ∈ vs, FlV v) : RepJ X (k + 1) (d + 1) [a] H0 (.ref a) (listText (vs.map flT)) :=
  .list h0 (fun H e => SqL.of (e _ _ h)) (fun z => nomatch z) (.flat hf)
theorem all_flat {as : List Addr} {h₀ : Heap} : ∀ {vs : List V} {us : List Value}, Vals vs us → (∀ v ∈ vs, FlV v) → ReprAllK prog w as h₀ d us (vs.map flT)
  | _, _, .nil, _ => .nil
  | _, _, .cons r q, h => .cons (ReprK.of_is (fl_is (h _ List.mem_cons_self) r) _ _ _) (all_flat q fun x hx => h x (List.mem_cons_of_mem _ hx))
theorem RepJ.flatT {vs : List V} (h : H0 a = some (.tup vs)) (hf : ∀ v ∈ vs, FlV v) : RepJ X k (d + 1) [a] H0 (.ref a) (tupleText (vs.map flT)) := .ofK fun pins σ H s e I => by
  obtain ⟨its, rv, ⟨o, ho, hc, n, hd⟩, _⟩ := I.tuple (SqT.of (K := X.K) (e _ _ h))
  exact ReprK.tuple ho hc hd (fun z => nomatch z) (all_flat (by simpa using rv) hf)
def kvT (p : Key × V) : Str := flT (kV p.1) ++ ": " ++ flT p.2
theorem ents_flat {as : List Addr} {h₀ : Heap} : ∀ {kvs : List (Key × V)} {ws : List (Key × Value)} {es : List DictEntry}, KV kvs ws → Pairs (mixKind prog w) es ws → (∀ p ∈ kvs, FlV (kV p.1) ∧ FlV p.2) → ReprEntriesK prog w as h₀ d es (kvs.map kvT)
  | _, _, _, .nil, .nil, _ => .nil
  | p :: _, q :: _, e :: _, .cons r rs, .cons h1 h2 h3, h => by
    refine .cons (ReprK.of_is (fl_is (h _ List.mem_cons_self).1 ?_) _ _ _) (ReprK.of_is (fl_is (h _ List.mem_cons_self).2 ?_) _ _ _) (ents_flat rs h3 fun x hx => h x (List.mem_cons_of_mem _ hx))
    · rw [r.1]
      rcases keyIs_shape h1 with ⟨i, t, e1, e2⟩ | ⟨x, t, e1, e2⟩
      · rw [e1, e2]; exact ⟨t, rfl⟩
      · rw [e1, e2]; exact ⟨t, rfl⟩
    · rw [h2]
      exact r.2
theorem RepJ.flatD {kvs : List (Key × V)} (h : H0 a = some (.dK kvs)) (hf : ∀ p ∈ kvs, FlV (kV p.1) ∧ FlV p.2) : RepJ X k (d + 1) [a] H0 (.ref a) (dictText (kvs.map kvT)) := .ofK fun pins σ H s e I => by
  obtain ⟨_, hs, ws, rw', o, es, ep, ho, hx, hd, _, hp, _⟩ := dk_of I.hok (e _ _ h)
  exact ReprK.dict ho hx.1 hd hs (fun z => nomatch z) (ents_flat rw' hp hf)
end
end Ab

set_option Elab.async false
set_option linter.all false
set_option maxRecDepth 100000
set_option maxHeartbeats 4000000
/-! AbE: the law's def called by the head, no repr running around. -/
namespace Ab
open PySem PySem.Spec PyProof.Rows L2
section
variable {P : Program} {w : World} {K : PySem.W.Frag} {mg mb : Str → Option Value} {k : Nat} {f a : Addr} {fd : FuncData} {x : Str} {sp : Sp} {s1 : Shared} {us : List Value} {ns : List Int}
/-- nothing but the script is tracked -/
structure Alone (K : PySem.W.Frag) (P : Program) (w : World) (H : Hp) (a : Addr) (ns : List Int) (h : Heap) : Prop where
  only : Only H
  seq : SqL K H a (ns.map V.int)
  ok : HOk P w H h
  at_ : ∀ b u, H b = some u → b = a ∧ K.lookup a = none
theorem alone (KX : K.In s1.heap) (ha : s1.heap.get? a = some { cls := .type "list", data := .seq us.toArray }) (hi : IntsAre us ns) (hl : ns.length ≤ sizeLine) : ∃ H, Alone K P w H a ns s1.heap := by
  have rv := vals_ints hi
  have lenU := hi.length
  cases hk : K.lookup a with
  | some o =>
    have e := KX a o hk
    rw [ha] at e
    cases e
    refine ⟨fun _ => none, fun _ => .inl rfl, .inr ⟨_, us.toArray, _, hk, rfl, rfl, rfl, ?_, by simpa using rv⟩, fun b u z => ?_, fun b u z => ?_⟩
    · rw [List.size_toArray, lenU]
      exact hl
    · exact absurd (show (none : Option HO) = some u from z) nofun
    · exact absurd (show (none : Option HO) = some u from z) nofun
  | none =>
    let ob : Obj := { cls := .type "list", data := .seq us.toArray }
    have at1 : ∀ b u, (if b = a then some (HO.frz ob (.lst (ns.map V.int))) else none) = some u → b = a ∧ u = .frz ob (.lst (ns.map V.int)) := fun b u z => by
      split at z
      · rename_i q
        exact ⟨q, (Option.some.inj z).symm⟩
      · cases z
    refine ⟨fun b => if b = a then some (.frz ob (.lst (ns.map V.int))) else none, fun b => ?_, .inl (.inr ⟨ob, if_pos rfl⟩), fun b u z => ?_, fun b u z => ⟨(at1 b u z).1, hk⟩⟩
    · by_cases q : b = a
      · exact .inr ⟨ob, _, if_pos q⟩
      · exact .inl (if_neg q)
    · obtain ⟨rfl, rfl⟩ := at1 b u z
      exact ⟨ha, by rw [List.length_map]; exact hl, us, _, rv, ha⟩
theorem law_q (KX : K.In s1.heap) (hns : s1.heap.Ns mainGlobals mg) (hb : s1.heap.Ns builtinsNs mb) (hbb : ∀ y : Str, y ≠ "__name__" → mb y = bootBuiltins y) (hlim : s1.heap.NoLimit) (hg : s1.gens = #[])
    (ha : s1.heap.get? a = some { cls := .type "list", data := .seq us.toArray }) (hi : IntsAre us ns) (hl : ns.length ≤ sizeLine) (hr : Room k callerA)
    (F : ∀ base : Heap, K.In base → base.Ns mainGlobals mg → Fq true P w K mg base CX0 k f fd [x] sp) (hbind : ∀ (s : Shared) (u : Value), BindsTo s fd ⟨[u], []⟩ [(x, u)])
    (hsp : ∀ H : Hp, SqL K H a (ns.map V.int) → sp [.ref a] H (fun v _ => v = .bl true) E0) :
    codeAny (model P w) callerA (.call (.ref f) ⟨[.ref a], []⟩) (fun r s' => r = .ok (.ret (.bool true)) ∧ OldK s1.heap s'.heap ∧ s'.os = s1.os ∧ AllBare s'.gens) s1 := by
  obtain ⟨H, al⟩ := alone (P := P) (w := w) KX ha hi hl
  have out : ∀ {b : Addr} {o : Obj}, s1.heap.get? b = some o → H b = none → (hidT s1.heap H).get? b = some o := fun e n => hidT_get e n
  have dct : ∀ {b : Addr} {o : Obj} {es : Array DictEntry} {ep : Nat}, s1.heap.get? b = some o → o.data = .dict es ep → H b = none := fun {b o es ep} e d => by
    cases q : H b with
    | none => rfl
    | some u =>
      obtain ⟨rfl, _⟩ := al.at_ b u q
      rw [ha] at e
      cases e
      exact nomatch (show Data.seq us.toArray _ = Data.dict es ep from d)
  have nsK : ∀ {b : Addr} {m : Str → Option Value}, s1.heap.Ns b m → (hidT s1.heap H).Ns b m := fun ⟨o, es, ep, e, d, r⟩ => ⟨o, es, ep, out e (dct e d), d, r⟩
  have inK : K.In (hidT s1.heap H) := fun b o e => out (KX b o e) (by
    cases q : H b with
    | none => rfl
    | some u =>
      obtain ⟨rfl, z⟩ := al.at_ b u q
      rw [z] at e
      cases e)
  obtain ⟨mc, l1, l2⟩ := hlim
  have md : Mod K mg (hidT s1.heap H) := ⟨inK, nsK hns, ⟨mb, nsK hb, hbb⟩, mc, nsK l1, l2⟩
  have e0 : Env0 P w K mg (hidT s1.heap H) callerA [] s1 H := ⟨rfl, md, fun b o e => of_hidT e, Nat.le_of_eq (hidT_size _ _), trivial, fun b z => (nomatch (show b ∈ ([] : List Addr) from z)), al.ok, .of_eq hg⟩
  refine codeAny_mono ((F _ inK (nsK hns)).go callerA [] s1 H ⟨[.ref a], []⟩ [.ref a] [.ref a] _ _ (fun _ => rfl) hr e0 (hbind s1 (.ref a)) (.cons rfl .nil) (hsp H al.seq)) fun r s' h => ?_
  cases r with
  | error e => exact False.elim h
  | ok fl =>
    cases fl with
    | ret u =>
      obtain ⟨v, H', os, bare, un, hok', r', q⟩ := h
      obtain rfl : v = .bl true := q
      obtain rfl : u = Value.bool true := r'
      refine ⟨rfl, OldK.of_keep fun b o e => ?_, os, bare⟩
      rcases al.only b with z | ⟨ob, xs, z⟩
      · exact un.keep b o e z (fun y => (nomatch (show b ∈ ([] : List Addr) from y))) List.not_mem_nil
      · have e1 := (al.ok b _ z).1
        have e2 := (hok' b _ (un.frzs b ob _ z)).1
        rw [e] at e1
        cases e1
        exact e2
    | _ => exact False.elim h
end
/-- a function object has one datum -/
theorem fd_eq {K : PySem.W.Frag} {x qual x' qual' : Str} {params params' : Arguments} {body body' : List Stmt} {scope scope' : Scope} {dvs dvs' : List V} {kws kws' : List (Str × V)} {f : Addr} {fd fd' : FuncData}
    (F : FunD K x qual params body scope dvs kws f fd) (F' : FunD K x' qual' params' body' scope' dvs' kws' f fd') : fd' = fd := by
  obtain ⟨oc, od, dV, kV, doc, pm, an, cdv, ct, osl, rfl, lk, _⟩ := F.ex
  obtain ⟨oc', od', dV', kV', doc', pm', an', cdv', ct', osl', rfl, lk', _⟩ := F'.ex
  rw [lk] at lk'
  have e := Option.some.inj lk'
  injection e with _ _ e _
  injection e with e
  exact e.symm
/-- what the head leaves, from the law's def -/
theorem walk_q {l : PySem.W.OpenLaw} {n k : Nat} {q : Program} {loose : List Str} {XP : (Str → Option Value) → Heap → Prop} {YP : World → Heap → Prop} {d : DefRec} {x : Str}
    (hn : l.most = some n) (hn2 : n ≤ sizeLine) (hdf : d.params.defaults = []) (hr : Room k callerA)
    (F : ∀ (w : World) (mg : Str → Option Value) (f : Addr) (h : Heap), YP w h → h.Ns mainGlobals mg → mg d.name = some (.ref f) → ∃ (K : PySem.W.Frag) (fd : FuncData) (sp : Sp), K.In h ∧
      (∀ (s : Shared) (u : Value), BindsTo s fd ⟨[u], []⟩ [(x, u)]) ∧ (∀ (H : Hp) (a : Addr) (ns : List Int), ns.length ≤ n → SqL K H a (ns.map V.int) → sp [.ref a] H (fun v _ => v = .bl true) E0) ∧
      ∀ base : Heap, K.In base → base.Ns mainGlobals mg → Fq true l.prog w K mg base CX0 k f fd [x] sp) :
    PySem.W.WalkO q loose XP YP l.row.toRowW d [] (fun f vs => PySem.call f vs) := by
  refine Att.attach_call hn hdf fun w s0 s1 mg mb f o pm cd doc a us ns G Y ho hd hcd hmg hobj hints hlen hg => ?_
  obtain ⟨K, fd, sp, KX, hb, hsp, hF⟩ := F w mg f _ Y G.T.g hmg
  exact law_q KX G.T.g G.T.b G.T.builtins G.T.nolimit hg hobj hints (Nat.le_trans hlen hn2) hr hF hb fun H hS => hsp H a ns hlen hS
end Ab

set_option Elab.async false
set_option linter.all false
set_option maxRecDepth 100000
set_option maxHeartbeats 4000000
/-! AbG: own exceptions over a built-in class (ValueError, LookupError, RuntimeError, ArithmeticError), their __init__ with super().__init__('..'). -/
namespace Ab
open PySem PySem.Spec PyProof.Rows L2
/-! ### the built-in class below -/
structure Bs where
  B : String
  newId : String
  initId : String
  bm : List Value
structure Bs.Ok (b : Bs) : Prop where
  F : ExcBaseFacts b.B b.newId b.initId b.bm
  S : StoreFacts b.B b.bm "object.__setattr__" "object"
  kxs : PySem.W.KxsFacts b.B b.initId
  quiet : ∀ args : Args, (Code.builtin b.initId args).quiet = true
  split : (b.initId == "object.__init__") = false
abbrev bTail (B : String) : List Value := [.type B, .type "Exception", .type "BaseException", .type "object"]
def bVE : Bs := ⟨"ValueError", "ValueError.__new__", "ValueError.__init__", bTail "ValueError"⟩
def bLE : Bs := ⟨"LookupError", "LookupError.__new__", "LookupError.__init__", bTail "LookupError"⟩
def bRE : Bs := ⟨"RuntimeError", "RuntimeError.__new__", "RuntimeError.__init__", bTail "RuntimeError"⟩
def bAE : Bs := ⟨"ArithmeticError", "ArithmeticError.__new__", "ArithmeticError.__init__", bTail "ArithmeticError"⟩
theorem bVE_ok : bVE.Ok := ⟨F.excBase_ValueError, F.store_ValueError, PySem.W.kxs_ValueError, fun _ => Code.quiet_builtin _ (by decide +kernel), by decide +kernel⟩
theorem bLE_ok : bLE.Ok := ⟨F.excBase_LookupError, F.store_LookupError, PySem.W.kxs_LookupError, fun _ => Code.quiet_builtin _ (by decide +kernel), by decide +kernel⟩
theorem bRE_ok : bRE.Ok := ⟨F.excBase_RuntimeError, F.store_RuntimeError, PySem.W.kxs_RuntimeError, fun _ => Code.quiet_builtin _ (by decide +kernel), by decide +kernel⟩
theorem bAE_ok : bAE.Ok := ⟨F.excBase_ArithmeticError, F.store_ArithmeticError, PySem.W.kxs_ArithmeticError, fun _ => Code.quiet_builtin _ (by decide +kernel), by decide +kernel⟩
/-- an own class over b -/
structure OexB (b : Bs) (K : PySem.W.Frag) (C : Addr) : Prop where
  ini : PySem.W.excInitIn K C b.bm b.newId = true
  over : PySem.W.excOver K C b.bm = true
  hd : PySem.W.hasDictIn K C = true
  sa : PySem.W.findIn K (.ref C) "__setattr__" = some (some (.builtin "object.__setattr__"))
  exC : PySem.W.subIn K (.ref C) (.type "BaseException") = some true
  tyC : PySem.W.typeIn K (.ref C) = some (.type "type")
  kC : PySem.W.keepIn K (.ref C) = true
def OexG (K : PySem.W.Frag) (C : Addr) : Prop := ∃ b : Bs, b.Ok ∧ OexB b K C
section
variable {b : Bs} {X : Cx} {pins : List (Addr × Obj)} {σ : L2.St} {H : Hp} {s : Shared} {a C dx : Addr} {f : Str} {y : V} {u : Value} {fs : List (Str × V)} {A : Around} {Q : Unit → Shared → Prop} {E : Value → Shared → Prop}
theorem taker_of {K : PySem.W.Frag} (hno : PySem.W.findIn K (.ref C) f = some none) : PySem.W.takerIn K C f = some none := by
  unfold PySem.W.takerIn
  rw [hno]
  rfl
/-- self.f = y: its dict is made -/
theorem xst_new (hb : b.Ok) (T : OexB b X.K C) (I : Inv X pins σ H s) (e : H a = some (exo a C none)) (hno : PySem.W.findIn X.K (.ref C) f = some none) (ry : RelV y u)
    (k : ∀ dx s', H dx = none → dx ≠ a → Inv X pins σ (upd (upd H dx (exd dx [(f, y)])) a (exo a C (some dx))) s' → Q () s') : wpAny (model X.prog X.w) A (setAttr (.ref a) f u) Q E s := by
  obtain ⟨t1, ho⟩ := exo_at I.hok e
  obtain ⟨hp, g, d, t, os⟩ := s
  have KX : X.K.In hp := I.kIn
  have hlt : a < hp.objs.size := Heap.lt_size ho
  have Ia : PySem.W.InstAt hp a { cls := .ref C, dict := none, data := .fields #[.ref t1, .none, .none, .none, .bool false, .none] } C none := ⟨ho, rfl, rfl, trivial⟩
  refine PySem.W.set_plain KX Ia T.sa ?_
  refine PySem.W.osa_openX (s := ⟨hp, g, d, t + 1, os⟩) (od := none) hb.S KX Ia T.over (taker_of hno) fun bb => ?_
  obtain ⟨cd, hc, hd'⟩ := PySem.W.any_some T.hd
  refine wpAny_bind (wpAny_pure (wpAny_bind (PySem.W.instanceDict_exc (s := ⟨hp, g, d, t + 1, os⟩) ho (PySem.W.looks_clsIn KX hc) hd' ?_)))
  have nd : hp.objs.size ≠ a := Nat.ne_of_gt hlt
  have dk : ((hp.push (PySem.W.dictOf [] 0)).update a fun o => { o with dict := some hp.objs.size }).Ns hp.objs.size (fun _ => none) :=
    ⟨_, #[], _, (Heap.get?_update_ne _ _ _ _ nd).trans (Heap.get?_push_at rfl rfl), rfl, fun z hz => absurd hz (by simp), fun _ => rfl⟩
  refine PySem.HandSPX.store_in_new dk fun h' tk' hn same => ?_
  have ha' : h'.get? a = some ({ cls := .ref C, dict := some hp.objs.size, data := .fields #[.ref t1, .none, .none, .none, .bool false, .none] } : Obj) :=
    (same.2 a nd.symm).trans (Heap.get?_update_self _ (Heap.get?_push_of_some _ ho) rfl)
  have kp : ∀ c o, c ≠ a → hp.get? c = some o → h'.get? c = some o := fun c o hca z =>
    (same.2 c (Nat.ne_of_lt (Heap.lt_size z))).trans ((Heap.get?_update_ne _ _ _ _ hca).trans (Heap.get?_push_of_some _ z))
  -- by way of a heap in which a is as it was
  have h1a : (h'.update a fun _ => { cls := .ref C, dict := none, data := .fields #[.ref t1, .none, .none, .none, .bool false, .none] }).get? a = some ({ cls := .ref C, dict := none, data := .fields #[.ref t1, .none, .none, .none, .bool false, .none] } : Obj) :=
    Heap.get?_update_self _ ha' rfl
  have h1o : ∀ c, c ≠ a → (h'.update a fun _ => { cls := .ref C, dict := none, data := .fields #[.ref t1, .none, .none, .none, .bool false, .none] }).get? c = h'.get? c := fun c hca => Heap.get?_update_ne _ _ _ _ hca
  have nH : H hp.objs.size = none := I.hok.fresh (Nat.le_refl _)
  have I1 := I.laid (t' := tk') (a := hp.objs.size) (o := exd hp.objs.size [(f, y)]) (h' := h'.update a fun _ => { cls := .ref C, dict := none, data := .fields #[.ref t1, .none, .none, .none, .bool false, .none] })
    (fun c o z => by
      by_cases hca : c = a
      · subst hca
        rw [h1a]
        exact ho.symm.trans z
      · rw [h1o c hca]
        exact kp c o hca z) (Nat.le_refl _) (exd_ok (hn.at fun o z => (h1o _ nd).trans z) (relO_put (fs := []) ry fun _ => True.intro))
  have e1 : upd H hp.objs.size (exd hp.objs.size [(f, y)]) a = some (exo a C none) := by rw [upd_ne nd.symm]; exact e
  exact k _ _ nH nd (I1.write (t' := tk') (x := a) (e := a) (o := exo a C (some hp.objs.size)) (h' := h') (by rw [e1]; exact True.intro) (.inl rfl) (fun c o hca z => (h1o c hca).symm.trans z) ⟨_, ha'⟩ (exo_ok ha'))
/-- self.f = y: a further one -/
theorem xst_old (hb : b.Ok) (T : OexB b X.K C) (I : Inv X pins σ H s) (e : H a = some (exo a C (some dx))) (ed : H dx = some (exd dx fs)) (hl : fs.length ≤ 900) (hno : PySem.W.findIn X.K (.ref C) f = some none) (ry : RelV y u)
    (k : ∀ s', Inv X pins σ (upd H dx (exd dx ((f, y) :: fs))) s' → Q () s') : wpAny (model X.prog X.w) A (setAttr (.ref a) f u) Q E s := by
  obtain ⟨t1, ho⟩ := exo_at I.hok e
  obtain ⟨mA, hns, rel⟩ := exd_at I.hok ed
  have hw := within_of rel
  obtain ⟨oD, _, _, hoD, _, _⟩ := hns.count hw
  obtain ⟨hp, g, d, t, os⟩ := s
  have KX : X.K.In hp := I.kIn
  have Ia : PySem.W.InstAt hp a { cls := .ref C, dict := some dx, data := .fields #[.ref t1, .none, .none, .none, .bool false, .none] } C (some oD) := ⟨ho, rfl, rfl, hoD⟩
  refine PySem.W.set_plain KX Ia T.sa ?_
  refine PySem.W.osa_openX (s := ⟨hp, g, d, t + 1, os⟩) (od := some oD) hb.S KX Ia T.over (taker_of hno) fun bb => ?_
  obtain ⟨cd, hc, hd'⟩ := PySem.W.any_some T.hd
  refine wpAny_bind (wpAny_pure (wpAny_bind (wpAny_bind (wpAny_loadPart ho (wpAny_bind ((PySem.W.looks_clsIn KX hc).here ?_))))))
  rw [hd']
  refine wpAny_pure (a := some dx) ?_
  refine PySem.OEX.store_in_old hns hw (by rw [List.length_map]; omega) fun h' tk' hn same => ?_
  have hd : ∃ o, h'.get? dx = some o := by
    obtain ⟨o, _, _, z, _⟩ := hn
    exact ⟨o, z⟩
  exact k _ (I.write (t' := tk') (x := dx) (e := dx) (o := exd dx ((f, y) :: fs)) (by rw [ed]; exact True.intro) (.inl rfl) (fun c o hc z => (same.2 c hc).trans z) hd (exd_ok hn (relO_put ry rel)))
end
/-! ### X(e, ..), X over b, with an __init__ of its own -/
section
variable {b : Bs} {X : Cx} {e : Expr} {es : List Expr} {ta : TA} {p pos : Pos}
theorem pmk_oexG {CX : CXT} {x : Str} {C fI : Addr} {k : Nat} {fd : FuncData} {ps : List Str} {sp : Sp} (hb : b.Ok) (T : OexB b X.K C) (iC : PySem.W.findIn X.K (.ref C) "__init__" = some (some (.ref fI))) (tI : PySem.W.typeIn X.K (.ref fI) = some (.type "function"))
    (F1 : FnOk X.prog X.w X.K X.mg X.base CX k fI fd ps sp) (hr : Room (k + 1) X.A) (hbd : Binds X.K fd ps []) (hx : Passes CX X (fun _ _ _ => False)) (hg : Gl X x) (hm : X.mg x = some (.ref C)) (ha : PA X (e :: es) ta)
    (hdb : (x == ("__debug__" : Str)) = false := by decide) (he : starEach (e :: es) X.env = (false, eval e X.env) :: starEach es X.env := by rfl) (hpl : (backTo pos (starEach es X.env)).any (·.1) = false := by rfl) :
    PMk X (.Call (.Name x p) (e :: es) [] pos) (tMkO C sp [] ta) := by
  intro pins s σ H Q I h
  refine wpAny_Call_Name_kw (ld_glob I hg hm ?_ hdb)
  refine PySem.W.callWith_K (h₀ := X.base) I.ok.mod.kin T.kC (thn (ha.run pos pins s σ H _ I h) fun us s1 w1 => ?_) he hpl
  obtain ⟨vs, H1, I1, rv, hz, q1⟩ := w1
  refine ⟨I1.kIn, ?_⟩
  show wpAny _ _ (call (.ref C) us) _ _ _
  obtain ⟨hp, g, dr, tk, os⟩ := s1
  obtain ⟨nm, N, qn, bs, bm, hdct, sn, sub, ab, col, dd, k0, k1, k2, k3, k5, hC, hcon⟩ := PySem.W.excInit_of I1.kIn T.ini
  have nH : H1 (hp.objs.size + 1) = none := I1.hok.fresh (Nat.le_succ _)
  have put := q1 _ nH
  have grow : ∀ c o, hp.get? c = some o → ((hp.push (PySem.W.kdv_tup us)).push (PySem.HandSPX.excO C hp.objs.size)).get? c = some o := fun c o z => Heap.get?_push_of_some _ (Heap.get?_push_of_some _ z)
  have I2 := I1.laid (t' := tk) (a := hp.objs.size + 1) (o := exo (hp.objs.size + 1) C none) (h' := (hp.push (PySem.W.kdv_tup us)).push (PySem.HandSPX.excO C hp.objs.size)) grow (Nat.le_succ _) (exo_ok (t1 := hp.objs.size) (by heap_get))
  have r2 : Vals (V.ref (hp.objs.size + 1) :: (vs ++ [])) (Value.ref (hp.objs.size + 1) :: us) := .cons rfl (by rw [List.append_nil]; exact rv)
  have hlen : (Value.ref (hp.objs.size + 1) :: us).length = ps.length := by rw [← r2.length]; exact F1.len _ _ _ _ put
  have hus : us.length ≤ sizeLine := by rw [← rv.length, sizeLine_eq]; omega
  have bind2 := hbd _ (Value.ref (hp.objs.size + 1) :: us) I2.kIn (by rw [List.append_nil]; exact hlen)
  rw [List.append_nil] at bind2
  have run := F1.run _ X.stack _ _ ⟨Value.ref (hp.objs.size + 1) :: us, []⟩ (Value.ref (hp.objs.size + 1) :: us) _ _ (fun _ _ _ => False) (hr.make C us []) (I2.env0.make C us []) bind2 r2 put
  refine wpAny_call (PySem.HandSPX.call_own hb.F hcon hC (PySem.W.looks_findIn I1.kIn iC) (fun self => PySem.W.bind_fn I1.kIn self tI) hus (codeAny_mono run fun r s' back => ?_))
  cases r with
  | error er => exact hx pins σ _ _ er s' I2 back
  | ok fl =>
    cases fl with
    | ret w0 =>
      obtain ⟨v, H2, os2, bare2, un2, hok2, rr, ev, d, fs, ea, ed, hd1, q2⟩ := back
      subst ev
      obtain ⟨h2, g2, d2, t2, os'⟩ := s'
      exact ⟨rr, mk_end (raises_own T.exC T.tyC) I1 (Nat.le_succ _) grow un2 hok2 os2 bare2 ea ed hd1 q2⟩
    | _ => exact False.elim back
end
/-! ### self.f as a target, self an exception that is being made -/
def gOst (K : PySem.W.Frag) (f : Str) (to : TE) : TG := fun v σ H Q => to σ H fun x H2 => ∃ a C : Addr, x = .ref a ∧ OexG K C ∧ PySem.W.findIn K (.ref C) f = some none ∧
  ((H2 a = some (exo a C none) ∧ ∀ dx, H2 dx = none → dx ≠ a → Q σ (upd (upd H2 dx (exd dx [(f, v)])) a (exo a C (some dx)))) ∨
    ∃ (dx : Addr) (fs : List (Str × V)), H2 a = some (exo a C (some dx)) ∧ H2 dx = some (exd dx fs) ∧ fs.length ≤ 900 ∧ Q σ (upd H2 dx (exd dx ((f, v) :: fs))))
theorem pg_ost {X : Cx} {o : Expr} {to : TE} {f : Str} {pos : Pos} (ho : PE X o to) : PG X (.Attribute o f pos) (gOst X.K f to) := by
  refine ⟨fun pins s σ H v u Q I r h => ?_⟩
  rw [assign_Attribute]
  refine wpAny_bind (wpAny_holding (thn (ho.run pins s σ H _ I h) fun ov s1 ⟨x, H2, I2, r2, a, C, ex, T, hno, q⟩ => ?_))
  subst ex
  obtain rfl : ov = Value.ref a := r2
  refine wpAny_bind (wpAny_standAt (wpAny_bind (wpAny_holding ?_)))
  rcases q with ⟨ea, q⟩ | ⟨dx, fs, ea, ed, hl, q⟩
  · obtain ⟨b, hb, T⟩ := T
    exact xst_new hb T I2 ea hno r fun dx s' n ne J => wpAny_release ⟨σ, _, J, q dx n ne⟩
  · obtain ⟨b, hb, T⟩ := T
    exact xst_old hb T I2 ea ed hl hno r fun s' J => wpAny_release ⟨σ, _, J, q⟩
/-! ### the built-in class's __init__, bound -/
section
variable {X : Cx} {pins : List (Addr × Obj)} {σ : L2.St} {H : Hp} {s : Shared} {a C u : Addr} {A : Around} {E : Value → Shared → Prop}
theorem call_mw {rest : List Value} {Q : Value → Shared → Prop} {b : Bs} (hb : b.Ok) (T : OexB b X.K C) (I : Inv X ((u, PySem.W.kxs_mw b.initId a) :: pins) σ H s) (e : H a = some (exo a C none)) (hl : rest.length ≤ sizeLine)
    (h : ∀ s', Inv X pins σ H s' → Q .none s') : wpAny (model X.prog X.w) A (call (.ref u) rest) Q E s := by
  obtain ⟨nm, N, q, bs, bm, hdct, sn, sub, ab, col, dd, k0, k1, k2, k3, k5, hC', hcon⟩ := PySem.W.excInit_of I.kIn T.ini
  obtain ⟨t1, ho⟩ := exo_at I.hok e
  have hu := ClX.pin_at I
  have I0 := ClX.unpin I
  obtain ⟨hp, g, d, t, os⟩ := s
  refine wpAny_call (codeAny_of_tree ?_)
  show wpAny _ A.in1 (callAny (.ref u) ⟨rest, []⟩) _ _ _
  simp only [callAny]
  refine wpAny_bind (wpAny_load hu ?_)
  simp only [PySem.W.kxs_mw, show (Value.type "method-wrapper" == Value.type "method" || Value.type "method-wrapper" == Value.type "builtin_function_or_method" || Value.type "method-wrapper" == Value.type "method-wrapper") = true by decide, if_true]
  refine PySem.W.KFB.if_so (by decide) ?_
  refine wpAny_bind (ESX.check_bound hb.F hC' ho rfl ?_)
  refine wpAny_bind (wpAny_pure (wpAny_pure ?_))
  refine ⟨hb.quiet _, codeAny_builtin hb.F.initEntry ?_⟩
  rw [Around.under_plainId hb.F.init.plain _]
  wp_walk
  have hx : ((hp.push (PySem.W.kdv_tup rest)).update a (Obj.mapFields fun z => z.setIfInBounds 0 (.ref hp.objs.size))).get? a = some ({ cls := .ref C, dict := none, data := .fields #[.ref hp.objs.size, .none, .none, .none, .bool false, .none] } : Obj) := by
    rw [Heap.get?_update_self _ (Heap.get?_push_of_some _ ho) rfl]
    rfl
  have J := I0.write (t' := t) (x := a) (e := a) (o := exo a C none) (by rw [e]; exact True.intro) (.inl rfl) (fun b o hb z => by rw [Heap.get?_update_other _ _ (Ne.symm hb)]; exact Heap.get?_push_of_some _ z) ⟨_, hx⟩ (exo_ok hx)
  have eu : upd H a (exo a C none) = H := by
    funext b
    by_cases hb : b = a
    · rw [hb, upd_same, e]
    · rw [upd_ne hb]
  rw [eu] at J
  exact h _ J
end
/-! ### a def with the cell of its class -/
abbrev fnC (x qual : Str) (params : Arguments) (body : List Stmt) (scope : Scope) (cc : Addr) (kV doc pm : Value) (an : Option Addr) (cdv ct : Value) : FuncData :=
  { PySem.W.fnOf x qual params body scope .none kV doc pm an cdv ct with closure := [("__class__", cc)] }
def cutFile : Str := "/claim/cut.py"
structure XFun (K : PySem.W.Frag) (d : He.DefD) (C : Addr) (fd : FuncData) : Prop where
  ex : ∃ (oc : Value) (od : Option Addr) (kV doc pm : Value) (an : Option Addr) (cda cc : Addr) (ct : Value) (osl : Array (Option Value)) (ccl : Value) (cdd : Option Addr) (vs : Array Value) (ccs : Array (Option Value)) (tf : Tok) (cl : Value) (cld : Option Addr) (csl : Array (Option Value)),
    fd = fnC d.name d.qual d.params d.body d.scope cc kV doc pm an (.ref cda) ct ∧ K.lookup (He.fAd K d.at_) = some ⟨oc, od, .func fd, osl⟩ ∧ PySem.W.codeIn K (.ref cda) d.qual = true ∧
    K.lookup cda = some ⟨ccl, cdd, .fields vs, ccs⟩ ∧ vs[2]? = some (.str cutFile tf) ∧ K.lookup cc = some ⟨cl, cld, .cell (some (.ref C)), csl⟩
/-- what is asked of the class -/
structure XCls (b : Bs) (K : PySem.W.Frag) (C : Addr) : Prop where
  ok : b.Ok
  oex : OexB b K C
  mro : PySem.W.mroIn K C (.ref C) = some true
  sup : PySem.W.ks_superIn K C C "__init__" = some (some (.builtin b.initId))
  sub : PySem.W.subIn K (.ref C) (.type b.B) = some true
  opq : PySem.W.nsIn K cStatics "thirdparty.any" = some none
/-- what is asked of the program -/
structure PFile (P : Program) : Prop where
  file : ((P.main.file : Str) == cutFile) = true
  sup : (P.main.scope.names.lookup ("super" : Str)).isSome = false
structure IScope (N ps : List Str) (sc : Scope) : Prop where
  kind : sc.kind = .function
  co : sc.isCoroutine = false
  gen : sc.isGenerator = false
  nd : N.Nodup
  pre : N.take ps.length = ps
  par : ∀ x ∈ ps, sc.names.lookup x = some .local
  nocell : ∀ y ∈ sc.names, y.2 ≠ .cell
  free : ∀ y ∈ sc.names, y.2 = .free → y.1 = "__class__"
  cls : sc.names.lookup ("__class__" : Str) = some .free
  sup : sc.names.lookup ("super" : Str) = some .globalImplicit
def envI (qual : Str) (scope : Scope) (L f cda cc : Addr) : Env :=
  { scope := scope, locals := L, globals := mainGlobals, cells := [("__class__", cc)], qual := qual ++ ".<locals>.", func := some f, code := .ref cda, frame := some L, builtins := builtinsNs }
def cxI (P : Program) (w : World) (K : PySem.W.Frag) (mg : Str → Option Value) (base : Heap) (N : List Str) (qual : Str) (scope : Scope) (f cda cc : Addr) (A : Around) (outer : List Env) (s : Shared) (H : Hp) : Cx where
  prog := P
  w := w
  K := K
  mg := mg
  base := base
  A := A.deeper (envI qual scope s.heap.objs.size f cda cc)
  N := N
  s_0 := s
  H_0 := H
  env := envI qual scope s.heap.objs.size f cda cc
  outer := outer
  stack := envI qual scope s.heap.objs.size f cda cc :: outer
  ex := []
  calm := true
  fn := fun _ => false
  pn := []
  xe := fun _ _ => False
theorem lookup_mem {β : Type} : ∀ {l : List (Str × β)} {k : Str} {v : β}, (l.map (·.1)).Nodup → (k, v) ∈ l → l.lookup k = some v
  | [], _, _, _, h => nomatch h
  | (k', v') :: l, k, v, nd, h => by
    rw [List.lookup_cons]
    rcases List.mem_cons.mp h with e | h
    · cases e
      simp
    · have nd' : k' ∉ l.map (·.1) ∧ (l.map (·.1)).Nodup := by simpa using nd
      have ne : k ≠ k' := fun e => nd'.1 (List.mem_map.mpr ⟨(k, v), h, e⟩)
      rw [show (k == k') = false from beq_eq_false_iff_ne.mpr ne]
      exact lookup_mem nd'.2 h
theorem zip_lookup {ps : List Str} {us : List Value} {i : Nat} {y : Str} {u : Value} (nd : ps.Nodup) (hl : ps.length = us.length) (hp : ps[i]? = some y) (hu : us[i]? = some u) : (ps.zip us).reverse.lookup y = some u := by
  refine lookup_mem ?_ ?_
  · have e : (ps.zip us).map (·.1) = ps := by
      have := List.map_fst_zip (l₁ := ps) (l₂ := us) (by omega)
      exact this
    rw [List.map_reverse, e]
    exact List.pairwise_reverse.mpr (nd.imp fun h => Ne.symm h)
  · rw [List.mem_reverse]
    refine List.mem_of_getElem? (i := i) ?_
    rw [List.getElem?_zip_eq_some]
    exact ⟨hp, hu⟩
theorem inv_i {P : Program} {w : World} {K : PySem.W.Frag} {mg : Str → Option Value} {base h0 : Heap} {N ps : List Str} {qual : Str} {scope : Scope} {f cda cc : Addr} {A : Around} {outer : List Env} {s : Shared} {H : Hp} {us : List Value} {vs : List V} {tk : Nat}
    {cl : Value} {cld : Option Addr} {csl : Array (Option Value)} {cv : Value}
    (S : IScope N ps scope) (hd : A.handled = none) (e0 : Env0 P w K mg base A outer s H) (hl : vs.length = ps.length) (r : Vals vs us) (hc : K.lookup cc = some ⟨cl, cld, .cell (some cv), csl⟩)
    (hns : h0.Ns s.heap.objs.size (fun x => (ps.zip us).reverse.lookup x)) (hk : ∀ b o, s.heap.get? b = some o → h0.get? b = some o) :
    Inv (cxI P w K mg base N qual scope f cda cc A outer s H) [] (start N vs) H { s with heap := h0, toks := tk } := by
  have hpl : ps.length ≤ N.length := by have := congrArg List.length S.pre; rw [List.length_take] at this; omega
  have no : ∀ b : Addr, b ∉ (cxI P w K mg base N qual scope f cda cc A outer s H).ex := fun b z => nomatch (show b ∈ ([] : List Addr) from z)
  have cell1 : ∀ {y : Str} {c : Addr}, (cxI P w K mg base N qual scope f cda cc A outer s H).env.cells.lookup y = some c → y = "__class__" ∧ c = cc := fun {y c} h => by
    have h' : ([("__class__", cc)] : List (Str × Addr)).lookup y = some c := h
    rw [List.lookup_cons] at h'
    by_cases e : y = "__class__"
    · rw [show (y == "__class__") = true from beq_iff_eq.mpr e] at h'
      exact ⟨e, (Option.some.inj h').symm⟩
    · rw [show (y == "__class__") = false from beq_eq_false_iff_ne.mpr e] at h'
      cases h'
  have hcb := e0.bs cc _ (e0.mod.kin _ _ hc)
  refine ⟨⟨e0.mod, S.kind, rfl, rfl, Nat.le_refl _, fun y z c h1 h2 => (cell1 h1).1.trans (cell1 h2).1.symm, fun y hy => ?_, fun y c h => (nomatch h), fun _ => hd, Around.frames_deeper e0.frames, .inr ⟨rfl, rfl⟩, fun b z => absurd z (no b), e0.bs, e0.bsz, fun b _ _ => no b, fun b z => absurd z (no b), e0.funs, e0.frf⟩,
    rfl, e0.bare, Un.kept hk, ⟨_, hns, fun i y v h1 h2 h3 => ?_⟩, fun y c h => ?_, e0.hok.fresh (Nat.le_refl _), fun y c h => ?_, fun p hp => (nomatch (show p ∈ ([] : List (Addr × Obj)) from hp)), e0.hok.kept hk, ?_⟩
  · have hy' : scope.names.lookup y = some .cell ∨ scope.names.lookup y = some .free := hy
    rcases hy' with z | z
    · exact absurd rfl (S.nocell _ (PySem.mem_of_lookup z))
    · have := S.free _ (PySem.mem_of_lookup z) rfl
      subst this
      exact ⟨cc, rfl⟩
  · have hi : i < vs.length := by
      unfold L2.start at h2
      by_cases hi : i < vs.length
      · exact hi
      · rw [List.getElem?_append_right (by simpa using hi), List.getElem?_replicate] at h2
        split at h2 <;> cases h2
    have ha : vs[i]? = some v := by
      unfold L2.start at h2
      rw [List.getElem?_append_left (by simpa using hi), List.getElem?_map] at h2
      cases e : vs[i]? with
      | none => rw [e] at h2; cases h2
      | some a => rw [e] at h2; cases h2; rfl
    obtain ⟨u, hu, rv⟩ := r.get ha
    have hp : ps[i]? = some y := by
      rw [← S.pre, List.getElem?_take_of_lt (by omega)]
      exact h1
    have ndP : ps.Nodup := by rw [← S.pre]; exact S.nd.sublist (List.take_sublist _ _)
    exact ⟨u, rv, .inl ⟨S.par y (List.mem_of_getElem? hp), zip_lookup ndP (by rw [← hl]; exact r.length) hp hu⟩⟩
  · obtain ⟨_, rfl⟩ := cell1 h
    exact ⟨_, _, hk _ _ hcb.1, rfl⟩
  · obtain ⟨_, rfl⟩ := cell1 h
    exact hcb.2
  · unfold L2.start
    show _ = N.length
    rw [List.length_append, List.length_map, List.length_replicate]
    omega
/-- the class, as it is written -/
theorem oex_look {K : PySem.W.Frag} {C : Addr} {bm0 : List Value} {newId : String} (h : PySem.W.excInitIn K C bm0 newId = true) : ∃ nm qn Nn bs bm hdct sn sub ab col dd k0 k1 k2 k3 k5,
    K.lookup C = some (excClassObj nm qn C Nn bs bm hdct sn sub ab col dd k0 k1 k2 k3 k5 newId) ∧ PySem.W.excTail bm0 bm = true := by
  unfold PySem.W.excInitIn at h
  split at h
  · rename_i od cd sl ho
    split at h
    · rename_i C' bm k0 k1 k2 k3 n k5 hm hs
      simp only [Bool.and_eq_true, beq_iff_eq, Bool.not_eq_true'] at h
      obtain ⟨⟨⟨rfl, rfl⟩, h3⟩, h4⟩ := h
      obtain ⟨nm, bs, mro, ns, qn, hd, sn, sub, ab, col, dl⟩ := cd
      obtain ⟨l⟩ := sl
      dsimp only at hm h3 hs
      subst hm h3 hs
      exact ⟨nm, qn, ns, bs, bm, hd, sn, sub, ab, col, od, k0, k1, k2, k3, k5, ho, h4⟩
    · cases h
  · cases h
/-! ### super().__init__('..'), then the rest -/
section
variable {P : Program} {w : World} {K : PySem.W.Frag} {mg : Str → Option Value} {base : Heap} {N ps : List Str} {C : Addr} {d : He.DefD} {fd : FuncData} {k : Nat} {sp : Sp}
theorem XFun.ok {rest : List Stmt} {z : Str} {j : Nat} {p0 p1 p2 p3 p4 p5 : Pos} (F : XFun K d C fd) (S : IScope N ps d.scope) {b : Bs} (T : XCls b K C) (hP : PFile P) (hm : mg "super" = none)
    (hb : d.body = .Expr (.Call (.Attribute (.Call (.Name "super" p0) [] [] p1) "__init__" p2) [.Constant (.str z) j p3] [] p4) p5 :: rest)
    (he : ∀ env : Env, eval (.Call (.Attribute (.Call (.Name "super" p0) [] [] p1) "__init__" p2) [.Constant (.str z) j p3] [] p4) env = (do
      let ov ← attributeBase (.Call (.Name "super" p0) [] [] p1) "__init__" env (eval (.Call (.Name "super" p0) [] [] p1) env)
      standAt p2.atName
      let (f, first) ← holding [ov] (getMethod ov "__init__" (do return (← importBound (.Call (.Name "super" p0) [] [] p1) env).getD true))
      callWith p4 f first (backTo p4 (starEach [.Constant (.str z) j p3] env)) []))
    (hp : ∃ ar : Arg, (d.params.posonlyargs ++ d.params.args).head? = some ar ∧ ps[0]? = some ar.arg) (len : ∀ vs H Q E, sp vs H Q E → vs.length = ps.length)
    (hbody : ∀ (cda cc : Addr) (A : Around) (outer : List Env) (s : Shared) (H : Hp) (vs : List V) (Q : VK) (E : XK), sp vs H Q E →
      ∃ (a : Addr) (tl : List V), vs = .ref a :: tl ∧ H a = some (exo a C none) ∧ ∃ t, PSs (cxI P w K mg base N d.qual d.scope (He.fAd K d.at_) cda cc A outer s H) rest t ∧ t { nx := fun _ H' => Q .non H', rt := Q } (L2.start N vs) H) :
    FnOk P w K mg base CX0 (k + 1) (He.fAd K d.at_) fd ps sp := by
  obtain ⟨oc, od, kV, doc, pm, an, cda, cc, ct, osl, ccl, cdd, cvs, ccs, tf, cl, cld, csl, rfl, lk, hcd, hcode, hfile, hcell⟩ := F.ex
  refine ⟨len, fun A outer s H args us vs Q E hr e0 hbd r hsp => ?_⟩
  have KX : K.In s.heap := e0.mod.kin.keeps fun b o e => (e0.bs b o e).1
  have lim : s.heap.NoLimit := e0.mod.nolimit.keeps fun b o e => (e0.bs b o e).1
  obtain ⟨a, tl, rfl, ha, t, ht, hq⟩ := hbody cda cc A outer s H vs Q E hsp
  refine PySem.ks_codeAny_call_defAt (body := d.body) (binds := ps.zip us) hr.depth (KX _ _ lk) rfl lim (PySem.W.codeRec_of KX hcd) rfl hbd S.nocell (fun x hx => S.par x.1 (List.of_mem_zip hx).1) (fun h0 hns hk => ?_) S.co S.gen S.kind
  have I : Inv (cxI P w K mg base N d.qual d.scope (He.fAd K d.at_) cda cc A outer s H) [] (L2.start N (.ref a :: tl)) H { s with heap := h0, toks := s.toks + (ps.zip us).length } :=
    inv_i S hr.hd e0 (len _ _ _ _ hsp) r hcell hns hk
  have hrun : ∀ s2, Inv (cxI P w K mg base N d.qual d.scope (He.fAd K d.at_) cda cc A outer s H) [] (L2.start N (.ref a :: tl)) H s2 →
      wpAny (model P w) (A.deeper (envI d.qual d.scope s.heap.objs.size (He.fAd K d.at_) cda cc)) (execs rest (envI d.qual d.scope s.heap.objs.size (He.fAd K d.at_) cda cc))
        (fun f s' => CR CX0 outer P w H s Q E (.ok (.ret (match f with | .ret v => v | _ => .none))) s') (fun _ _ => False) s2 := by
    intro s2 I2
    refine wpAny_mono (ht.run [] s2 _ H _ I2 hq) (fun fl s' hs => ?_) fun e s' hs => hs
    cases fl with
    | ret u =>
      obtain ⟨v, σ', H', J, rv, q⟩ := hs
      exact ⟨v, H', J.os, J.bare, J.base, J.hok, rv, q⟩
    | next =>
      obtain ⟨σ', H', J, q⟩ := hs
      exact ⟨V.non, H', J.os, J.bare, J.base, J.hok, rfl, q⟩
    | brk => obtain ⟨_, _, _, q⟩ := hs; exact q.elim
    | cont => obtain ⟨_, _, _, q⟩ := hs; exact q.elim
  obtain ⟨ar, hp1, hp2⟩ := hp
  have hka : d.scope.names.lookup ar.arg = some .local := S.par _ (List.mem_of_getElem? hp2)
  have hN0 : N[0]? = some ar.arg := by
    have e := S.pre
    have h0 : 0 < ps.length := by
      rcases Nat.lt_or_ge 0 ps.length with h | h
      · exact h
      · rw [List.getElem?_eq_none h] at hp2; cases hp2
    rw [← hp2, ← e, List.getElem?_take_of_lt (by omega)]
  obtain ⟨m, hnm, hlm⟩ := I.loc
  obtain ⟨u0, ru0, lu0⟩ := hlm 0 ar.arg (.ref a) hN0 rfl (.inl hka)
  obtain rfl : u0 = Value.ref a := ru0
  have hma : m ar.arg = some (.ref a) := by
    rcases lu0 with ⟨_, h⟩ | ⟨h, _⟩
    · exact h
    · have h' : d.scope.names.lookup ar.arg = some .cell ∨ d.scope.names.lookup ar.arg = some .free := h
      rw [hka] at h'
      rcases h' with h' | h' <;> cases h'
  have X1 : K.In h0 := I.kIn
  show PySem.wpAt (model P w) (A.deeper (envI d.qual d.scope s.heap.objs.size (He.fAd K d.at_) cda cc)) (.func d.body (envI d.qual d.scope s.heap.objs.size (He.fAd K d.at_) cda cc)) (execs d.body (envI d.qual d.scope s.heap.objs.size (He.fAd K d.at_) cda cc)) _ _ _
  rw [hb]
  refine PySem.ks_wpAt_mono (E := fun _ _ => False) ?_ (fun _ _ z => z) fun _ _ z => z.elim
  refine PySem.ks_wpAt_execs_cons ?_
  refine PySem.ks_wpAt_Expr_any ?_ I.quiet (by rfl)
  refine PySem.ks_wpAt_MethodCall ?_ (he _)
  refine PySem.ks_wpAt_super_base (env := envI d.qual d.scope s.heap.objs.size (He.fAd K d.at_) cda cc) S.sup S.cls (by decide) rfl (X1 _ _ lk) rfl hp1 rfl (X1 _ _ hcode) rfl hfile hP.file hP.sup ?_
  obtain ⟨mb, b1, b2⟩ := I.mod.blt
  refine PySem.W.ks_loadName_global S.kind S.sup (Calls.loadGlobal_builtin (env := envI d.qual d.scope s.heap.objs.size (He.fAd K d.at_) cda cc) (I.mod.glob.keeps I.bk) hm (b1.keeps I.bk) ((b2 _ (by decide)).trans PyProof.Rows.Boot.«super») ⟨rfl, ?_⟩)
  refine wpAny_loadName_free S.kind S.cls rfl ⟨_, X1 _ _ hcell, rfl⟩ ?_
  refine wpAny_loadName_local S.kind hka hnm hma ?_
  obtain ⟨nm, qn, Nn, bs, bm, hdct, sn, sub, ab, col, dd, k0, k1, k2, k3, k5, hC, hcon⟩ := oex_look T.oex.ini
  have hcl : PySem.W.clsIn K C = some { name := nm, bases := bs, mro := .ref C :: bm, ns := Nn, qualname := qn, hasDict := hdct, slotNames := sn, subclasses := sub, abstract := ab, collection := col, hasDel := false } := by
    unfold PySem.W.clsIn
    rw [hC]
  obtain ⟨t1, hoa⟩ := exo_at I.hok ha
  refine PySem.ks_wpAny_isType_cls (X1 _ _ hC) rfl ⟨rfl, ?_⟩
  refine PySem.ks_wpAny_call_super (X1 _ _ hC) rfl hoa rfl (fun c z => nomatch z) (PySem.W.looks_mroIn X1 T.mro) fun h1 hso hk1 => ?_
  have I1 := I.kept (t' := s.toks + (ps.zip us).length) hk1
  have X2 : K.In h1 := I1.kIn
  have hsup := T.sup
  unfold PySem.W.ks_superIn at hsup
  rw [hcl, Option.bind_some] at hsup
  have hne : a ≠ C := fun z => by
    have h1 := X1 _ _ hC
    rw [← z, hoa] at h1
    cases h1
  have Ja : PySem.W.InstAt h1 a _ C none := ⟨hk1 _ _ hoa, rfl, rfl, trivial⟩
  refine PySem.W.kxs_getMethod T.ok.kxs hso (PySem.W.looks_opaque X2 T.opq) (l₀ := .ref C :: bm) (fun A Q E s k q => wpAny_bind ((PySem.W.looks_clsIn X2 hcl) A _ E s k (wpAny_pure q))) rfl X2 hsup (Ja.type.andThen (PySem.W.looks_subIn X2 T.sub)) hne (by decide) ?_
  have J2 : Inv (cxI P w K mg base N d.qual d.scope (He.fAd K d.at_) cda cc A outer s H) [(h1.objs.size, PySem.W.kxs_mw b.initId a)] (L2.start N (.ref a :: tl)) H
      ⟨h1.push (PySem.W.kxs_mw b.initId a), s.gens, s.drawn, s.toks + (ps.zip us).length + 1, s.os⟩ :=
    ClX.pin_new (s := ⟨h1, s.gens, s.drawn, s.toks + (ps.zip us).length, s.os⟩) (t' := s.toks + (ps.zip us).length + 1) I1 (fun _ _ z => Heap.get?_push_of_some _ z) (Nat.le_refl _) (Heap.get?_push_size h1 rfl) (fun v z => nomatch z)
  have hst : ∀ env : Env, starEach [.Constant (.str z) j p3] env = [(false, eval (.Constant (.str z) j p3) env)] := fun env => rfl
  rw [hst]
  refine PySem.W.kxs_callWith (i := b.initId) (x := a) (by rfl) ?_
  refine Calls.evalArgs_plain (Calls.spliced_cons ?_)
  refine thn ((pe_str (X := cxI P w K mg base N d.qual d.scope (He.fAd K d.at_) cda cc A outer s H) (pos := p3) (j := j)).run _ _ _ H (fun v H' => v = .str z ∧ H' = H) J2 ⟨rfl, rfl⟩) fun u s3 hu => ?_
  obtain ⟨v, H3, I3, ru, rfl, rfl⟩ := hu
  refine Calls.spliced_nil ⟨ClX.pin_at I3, ?_⟩
  exact call_mw T.ok T.oex I3 ha (show 1 ≤ sizeLine by decide) fun s4 I4 => wpAt_of_wpAny (hrun s4 I4)
end
/-! ### isinstance of a caught exception that has a dict -/
section
open PySem.W PySem.Calls
variable {prog : Program} {w : World} {A : Around} {E : Value → Shared → Prop} {s : Shared} {K : Frag} {x D : Addr} {ox : Obj} {od : Option Obj}
theorem clsOf_exc {Q : Option Value → Shared → Prop} (c : L2.ExcC K D) (X : K.In s.heap) (I : InstAt s.heap x ox D od) (h : Q (some (.ref D)) { s with toks := s.toks + 1 }) : wpAny (model prog w) A (getAttr? (.ref x) "__class__") Q E s := by
  have fnd : findObj K D od "__class__" = some (.bind (.builtin "getset_descriptor.__get__") (.builtin "object.__class__")) := by
    obtain ⟨cd, e, _⟩ := any_some c.hd
    unfold findObj
    rw [e, Option.bind_some, c.ha, Option.bind_some]
    simp [c.hn, c.ht]
  obtain ⟨hp, g, d, t, os⟩ := s
  have t0 := I.type (M := model prog w)
  have t1 := looks_findIn (M := model prog w) X c.hg
  have t2 := looks_findIn (M := model prog w) X c.hk
  have t3 := looks_find (M := model prog w) X I fnd
  have tb : Looks (model prog w) hp (isInstance (.ref x) (.type "BaseException")) true := t0.andThen (looks_subIn X c.hs)
  have n0 : (false && onTheHeap (Value.builtin "BaseException.__getattribute__")) = false := rfl
  have n1 : (onTheHeap (Value.ref D) && (Value.builtin "BaseException.__getattribute__" == Value.builtin "object.__getattribute__")) = false := by
    rw [show (Value.builtin "BaseException.__getattribute__" == Value.builtin "object.__getattribute__") = false from by decide +kernel, Bool.and_false]
  unfold getAttr? getAttrBy? getAttrBy
  refine wpAny_bind (wpAny_mkText (wpAny_bind (wpAny_attempt (wpAny_holding (wpAny_bind (t0.at (wpAny_bind (t1.at ?_))))))))
  show wpAny _ _ (if (onTheHeap (Value.ref D) && (Value.builtin "BaseException.__getattribute__" == Value.builtin "object.__getattribute__")) = true then _ else _) _ _ _
  rw [n1, if_neg Bool.false_ne_true]
  unfold getAttrByItsOwn hookBefore
  refine wpAny_bind ?_
  rw [if_pos (show onTheHeap (Value.ref D) = true by rfl)]
  refine t2.at (wpAny_bind (wpAny_attempt (wpAny_holding ?_)))
  unfold callGetattribute
  rw [n0, if_neg Bool.false_ne_true]
  unfold boundAndCalled
  rw [PySem.F.excAttr_ValueError.ga.bind (.ref x)]
  refine wpAny_bind (wpAny_pure ?_)
  show wpAny _ _ (call (.builtin "BaseException.__getattribute__") [.ref x, .str "__class__" t]) _ _ ⟨hp, g, d, t + 1, os⟩
  refine wpAny_call (codeAny_call_builtin PySem.F.excAttr_ValueError.ga.plain PySem.F.entry_bexc_ga (@check_slot (model prog w) _ _ ⟨hp, g, d, t + 1, os⟩ "BaseException.__getattribute__" "BaseException" "__getattribute__" (.ref x) [.str "__class__" t] [] _ (by decide +kernel) (by decide +kernel) tb (PySem.F.args_bexc_ga (.ref x) (.str "__class__" t)) ?_))
  unfold Builtin.«object.__getattribute__»
  refine wpAny_bind (wpAny_of_eq (a := ((Value.ref x : Value), [Value.str "__class__" t])) (by first | rfl | (simp only [slotArgs]; rfl)) (wpAny_bind (wpAny_pure (wpAny_bind (t0.at (wpAny_bind (t3.at ?_)))))))
  show wpAny _ _ (holding [Value.builtin "object.__class__"] (call (.builtin "getset_descriptor.__get__") [.builtin "object.__class__", .ref x, .ref D]) >>= ret) _ _ ⟨hp, g, d, t + 1, os⟩
  refine wpAny_bind (wpAny_holding (wpAny_call (class_get (s := ⟨hp, g, d, t + 1, os⟩) (ox := ox) (od := od) X I c.hm (wpAny_pure ?_))))
  show wpAny _ _ (handedOut (.ref D)) _ _ ⟨hp, g, d, t + 1, os⟩
  rw [handedOut_of (v := .ref D) rfl]
  first
    | exact wpAny_pure (wpAny_pure h)
    | exact wpAny_pure h
    | exact wpAny_pure (wpAny_bind (wpAny_pure (wpAny_pure h)))
theorem kitx_exc (c : L2.ExcC K D) : KitX K (.ref x) (.ref D) (fun h => InstAt h x ox D od) where
  ty := fun _ _ _ I => I.type
  it := fun _ _ X _ => by
    obtain ⟨cd, e, _⟩ := any_some c.hd
    unfold clsIn at e
    split at e
    · rename_i c' d' cd' sl' ho
      intro A' Q' E' s' k q
      unfold isType loadHead
      exact wpAny_bind (wpAny_loadPart (k _ _ (X _ _ ho)) (wpAny_pure q))
    · cases e
  ne := fun h tp dd its n sl X htp => by
    obtain ⟨cd, e, _⟩ := any_some c.hd
    refine Bool.eq_false_iff.mpr fun q => ?_
    have eq : D = tp := Value.ref.inj (beq_iff_eq.mp q)
    subst eq
    unfold clsIn at e
    split at e
    · rename_i c' d' cd' sl' ho
      exact nomatch ((X _ _ ho).symm.trans htp)
    · cases e
  ca := fun X I k => clsOf_exc c X I k
end
/-- e's class and dict, as the suite knows them -/
def rIsX (K : PySem.W.Frag) (a : Addr) (cls : Value) (d : Option Addr) : List V → Hp → VK → Prop := fun xs H Q => ∃ (D dd : Addr) (fs : List (Str × V)) (c : V) (u : Value) (b : Bool), cls = .ref D ∧ d = some dd ∧ H dd = some (.xd fs) ∧ ExcC K D ∧ xs = [.ref a, c] ∧ ClsV c u ∧ PySem.W.kitOne K (.ref D) u = some b ∧ Q (.bl b) H
def rIsXT (K : PySem.W.Frag) (a : Addr) (cls : Value) (d : Option Addr) : List V → Hp → VK → Prop := fun xs H Q => ∃ (D dd : Addr) (fs : List (Str × V)) (tp : Addr) (cs : List V) (us : List Value) (b : Bool), cls = .ref D ∧ d = some dd ∧ H dd = some (.xd fs) ∧ ExcC K D ∧ xs = [.ref a, .ref tp] ∧ H tp = some (.tup cs) ∧ Paired ClsV cs us ∧
  PySem.W.kitAny K (.ref D) us = some b ∧ Q (.bl b) H
section
variable {X : Cx} {a : Addr} {oe : Obj} {cls : Value} {d : Option Addr} {pn : List (Addr × Obj)}
theorem inst_of {D dd : Addr} {fs : List (Str × V)} {pins : List (Addr × Obj)} {σ : L2.St} {H : Hp} {s : Shared} (hz : Zc (.ref D) (some dd) oe) (hf : ∃ vs, oe.data = .fields vs) (I : Inv (X.suite a ((a, oe) :: pn)) pins σ H s) (hd : H dd = some (.xd fs)) :
    ∃ od, PySem.W.InstAt s.heap a oe D (some od) := by
  obtain ⟨hget, _⟩ := I.pin (a, oe) (List.mem_append.mpr (.inl List.mem_cons_self))
  obtain ⟨mA, ⟨o, _, _, ho, _⟩, _⟩ : ∃ mA, s.heap.Ns1 dd mA ∧ ∀ f, RelO (fs.lookup f) (mA f) := I.hok dd _ hd
  obtain ⟨vs, hv⟩ := hf
  obtain ⟨oc, od, oda, osl⟩ := oe
  obtain ⟨h1, h2⟩ := hz
  dsimp only at h1 h2 hv
  subst h1 h2 hv
  exact ⟨o, hget, rfl, rfl, ho⟩
theorem call_isX (hz : Zc cls d oe) (hf : ∃ vs, oe.data = .fields vs) : CallR (X.suite a ((a, oe) :: pn)) (.builtin "isinstance") (rIsX X.K a cls d) := by
  intro pins s σ H xs us Q I r h
  obtain ⟨D, dd, fs, c, u, b, rfl, rfl, hd, C, rfl, k, e, q⟩ := h
  obtain ⟨u1, u2, rfl, r1, r2⟩ := vals2 r
  cases (show u1 = Value.ref a from r1)
  have e2 := k.eq r2
  subst e2
  obtain ⟨od, J⟩ := inst_of hz hf I hd
  exact PySem.W.kia_one (kitx_exc C) I.kIn J e (fun z => nomatch z) fun tk => ⟨.bl b, H, I.tok tk, rfl, q⟩
theorem call_isXT (hz : Zc cls d oe) (hf : ∃ vs, oe.data = .fields vs) : CallR (X.suite a ((a, oe) :: pn)) (.builtin "isinstance") (rIsXT X.K a cls d) := by
  intro pins s σ H xs us Q I r h
  obtain ⟨D, dd, fs, tp, cs, ws, b, rfl, rfl, hd, C, rfl, hT, k, e, q⟩ := h
  obtain ⟨u1, u2, rfl, r1, r2⟩ := vals2 r
  cases (show u1 = Value.ref a from r1)
  cases (show u2 = Value.ref tp from r2)
  obtain ⟨od, J⟩ := inst_of hz hf I hd
  obtain ⟨_, its, rv, o, h1, h2, n, h3⟩ := (show ObjOk X.prog X.w H s.heap tp (.tup cs) from I.hok tp _ hT)
  have e3 := ClsV.all k rv
  subst e3
  obtain ⟨oc, od', dt, sl⟩ := o
  simp only at h2 h3
  subst h2 h3
  exact PySem.W.kia_tup (kitx_exc C) I.kIn J h1 e (fun z => nomatch z) fun tk => ⟨.bl b, H, I.tok tk, rfl, q⟩
end
/-! ### the facts as Bools, the hook -/
open He in
def oexBB (b : Bs) (K : PySem.W.Frag) (C : Addr) : Bool := PySem.W.excInitIn K C b.bm b.newId && (PySem.W.excOver K C b.bm && (PySem.W.hasDictIn K C && (eqO (PySem.W.findIn K (.ref C) "__setattr__") (some (some (.builtin "object.__setattr__"))) &&
  (decide (PySem.W.subIn K (.ref C) (.type "BaseException") = some true) && (decide (PySem.W.typeIn K (.ref C) = some (.type "type")) && PySem.W.keepIn K (.ref C))))))
theorem oexBB_ok {b : Bs} {K : PySem.W.Frag} {C : Addr} (h : oexBB b K C = true) : OexB b K C := by
  obtain ⟨h0, h⟩ := He.ba h
  obtain ⟨h1, h⟩ := He.ba h
  obtain ⟨h2, h⟩ := He.ba h
  obtain ⟨h3, h⟩ := He.ba h
  obtain ⟨h4, h⟩ := He.ba h
  obtain ⟨h5, h6⟩ := He.ba h
  exact ⟨h0, h1, h2, He.eqO_ok h3, of_decide_eq_true h4, of_decide_eq_true h5, h6⟩
open He in
def xclsB (b : Bs) (K : PySem.W.Frag) (C : Addr) : Bool := oexBB b K C && (decide (PySem.W.mroIn K C (.ref C) = some true) && (eqO (PySem.W.ks_superIn K C C "__init__") (some (some (.builtin b.initId))) &&
  (decide (PySem.W.subIn K (.ref C) (.type b.B) = some true) && eqO (PySem.W.nsIn K cStatics "thirdparty.any") (some none))))
theorem xclsB_ok {b : Bs} (hb : b.Ok) {K : PySem.W.Frag} {C : Addr} (h : xclsB b K C = true) : XCls b K C := by
  obtain ⟨h0, h⟩ := He.ba h
  obtain ⟨h1, h⟩ := He.ba h
  obtain ⟨h2, h⟩ := He.ba h
  obtain ⟨h3, h4⟩ := He.ba h
  exact ⟨hb, oexBB_ok h0, of_decide_eq_true h1, He.eqO_ok h2, of_decide_eq_true h3, He.eqO_ok h4⟩
open He in
/-- what isinstance and e.f ask of it -/
def excB (K : PySem.W.Frag) (C : Addr) : Bool := xfB K C && (eqO (PySem.W.findIn K (.ref C) "__class__") (some (some (.builtin "object.__class__"))) &&
  (eqO (PySem.W.specialIn K (.builtin "object.__class__") "__get__") (some (some (.builtin "getset_descriptor.__get__"))) && (decide (PySem.W.takesIn K (.builtin "object.__class__") = some true) && decide (PySem.W.mroIn K C (.type "object") = some true))))
theorem excB_ok {K : PySem.W.Frag} {C : Addr} (h : excB K C = true) : ExcC K C ∧ XfC K C := by
  obtain ⟨h0, h⟩ := He.ba h
  obtain ⟨h1, h⟩ := He.ba h
  obtain ⟨h2, h⟩ := He.ba h
  obtain ⟨h3, h4⟩ := He.ba h
  obtain ⟨g1, g⟩ := He.ba h0
  obtain ⟨g2, g⟩ := He.ba g
  obtain ⟨g3, g4⟩ := He.ba g
  exact ⟨⟨of_decide_eq_true g1, of_decide_eq_true g2, of_decide_eq_true g3, g4, He.eqO_ok h1, He.eqO_ok h2, of_decide_eq_true h3, of_decide_eq_true h4⟩, xfB_ok h0⟩
abbrev FnZ : Type := Option (Str × Str × Arguments × FuncBody × Scope × Addr × List Str × Addr)
def fnZ (K : PySem.W.Frag) (p : Str × Option Str) : FnZ := match K.lookup (He.fAd K p) with
  | some ⟨_, _, .func fd, _⟩ => some (fd.name, fd.qualname, fd.params, fd.body, fd.scope, fd.globals, fd.closure.map (·.1), fd.builtins)
  | _ => none
def valZ (d : He.DefD) : FnZ := some (d.name, d.qual, d.params, .stmts d.body, d.scope, mainGlobals, ["__class__"], builtinsNs)
def fileB (K : PySem.W.Frag) (cda : Addr) : Bool := match K.lookup cda with
  | some ⟨_, _, .fields vs, _⟩ => (match (vs[2]? : Option Value) with
    | some (.str z _) => z == cutFile
    | _ => false)
  | _ => false
def cellB (K : PySem.W.Frag) (cc C : Addr) : Bool := match K.lookup cc with
  | some ⟨_, _, .cell (some (.ref D)), _⟩ => D == C
  | _ => false
def xfunB (K : PySem.W.Frag) (d : He.DefD) (C : Addr) : Bool := match K.lookup (He.fAd K d.at_) with
  | some ⟨_, _, .func fd, _⟩ => (match fd.closure, fd.code, fd.defaults with
    | [(_, cc)], .ref cda, .none => PySem.W.codeIn K (.ref cda) d.qual && (fileB K cda && cellB K cc C)
    | _, _, _ => false)
  | _ => false
theorem xfun_ok {K : PySem.W.Frag} {d : He.DefD} {C : Addr} (e : fnZ K d.at_ = valZ d) (c : xfunB K d C = true) : ∃ fd, XFun K d C fd := by
  unfold fnZ at e
  unfold xfunB at c
  cases q : K.lookup (He.fAd K d.at_) with
  | none =>
    rw [q] at c
    cases c
  | some o =>
    obtain ⟨oc, od, dt, osl⟩ := o
    rw [q] at c e
    cases dt with
    | func fd =>
      obtain ⟨n1, n2, n3, n4, n5, n6, n7, n8, n9, n10, n11, n12, n13, n14, n15⟩ := fd
      have e2 : (some (n1, n2, n3, n4, n5, n6, n7.map (·.1), n15) : FnZ) = some (d.name, d.qual, d.params, FuncBody.stmts d.body, d.scope, mainGlobals, [Str.ofString "__class__"], builtinsNs) := e
      simp only [Option.some.injEq, Prod.mk.injEq] at e2
      obtain ⟨h1, h2, h3, h4, h5, h6, h7, h8⟩ := e2
      subst h1 h2 h3 h4 h5 h6 h8
      dsimp only at c
      split at c
      · rename_i nn cc cda
        obtain ⟨c1, c⟩ := He.ba c
        obtain ⟨c2, c3⟩ := He.ba c
        have hn : nn = "__class__" := by simpa using h7
        subst hn
        unfold fileB at c2
        unfold cellB at c3
        split at c2
        · rename_i ccl cdd vs ccs hcode
          split at c2
          · rename_i z tf hv
            have hz : z = cutFile := beq_iff_eq.mp c2
            subst hz
            split at c3
            · rename_i cl cld D csl hcell
              have hD : D = C := beq_iff_eq.mp c3
              subst hD
              exact ⟨_, oc, od, n9, n10, n11, n12, cda, cc, n14, osl, ccl, cdd, vs, ccs, tf, cl, cld, csl, rfl, q, c1, hcode, hv, hcell⟩
            · cases c3
          · cases c2
        · cases c2
      · cases c
    | _ => cases c
abbrev AlY : Type := AlX × List FnZ
def obsYG (n : Nat) (fa : List He.Fa) (fn xn : List He.DefD) (ex : PySem.W.Frag → Bool) (g : Addr → Option Obj) : AlY :=
  (fun K => (((He.obsD fa fn K, ex K) : AlX), xn.map fun d => fnZ K d.at_)) (He.frG g (He.asD g n ++ [cStatics]))
def hookY (n : Nat) (fa : List He.Fa) (fn xn : List He.DefD) (ex : PySem.W.Frag → Bool) : PySem.W.Hook where
  α := AlY
  obs := fun s => obsYG n fa fn xn ex s.heap.get?
  val := fun _ => ((He.valD fn, true), xn.map valZ)
  says := fun _ h => ∃ K : PySem.W.Frag, K.In h ∧ Says fa fn ex K ∧ xn.map (fun d => fnZ K d.at_) = xn.map valZ
  of := fun _ _ e => ⟨_, He.frG_in, ⟨congrArg (fun z : AlY => z.1.1) e, congrArg (fun z : AlY => z.1.2) e⟩, congrArg (fun z : AlY => z.2) e⟩
  keeps := fun _ _ _ ⟨K, hK, c⟩ k => ⟨K, PySem.W.Frag.In.keeps hK k, c⟩
theorem obsYG_eq {n : Nat} {fa : List He.Fa} {fn xn : List He.DefD} {ex : PySem.W.Frag → Bool} {g : Addr → Option Obj} {s : Shared} (h : ∀ a, g a = s.heap.get? a) : obsYG n fa fn xn ex g = (hookY n fa fn xn ex).obs s := by
  have e : g = s.heap.get? := funext h
  rw [e]
  rfl
/-- the text of a program with own exceptions -/
structure TxX (P : Program) (fa : List He.Fa) (fn xn : List He.DefD) (ex : PySem.W.Frag → Bool) (K : PySem.W.Frag) (mg : Str → Option Value) : Prop extends Tx fa fn ex K mg where
  pf : PFile P
  xf : xn.map (fun d => fnZ K d.at_) = xn.map valZ
theorem TxX.xfn {P : Program} {fa : List He.Fa} {fn xn : List He.DefD} {ex : PySem.W.Frag → Bool} {K : PySem.W.Frag} {mg : Str → Option Value} (T : TxX P fa fn xn ex K mg) (i : Nat) {d : He.DefD} {C : Addr} (c : xfunB K d C = true) (h : xn[i]? = some d := by rfl) : ∃ fd, XFun K d C fd := by
  have e2 : (xn.map fun d => fnZ K d.at_)[i]? = (xn.map valZ)[i]? := by rw [T.xf]
  rw [List.getElem?_map, List.getElem?_map, h] at e2
  exact xfun_ok (Option.some.inj e2) c
/-! ### an own exception made -/
/-- the fields behind __init__ -/
def xFs (fl : List Str) (vs : List V) (t : Addr) : List (Str × V) := ("told_parts", .ref t) :: (fl.zip vs).reverse
def spX (C : Addr) (nm : Str) (fl : List Str) : Sp := fun vs H Q _ => ∃ (a : Addr) (args : List V), vs = .ref a :: args ∧ args.length = fl.length ∧ H a = some (exo a C none) ∧
  ∀ (d t : Addr) (H' : Hp), H d = none → H t = none → (∀ b o, b ≠ a → H b = some o → H' b = some o) → H' a = some (exo a C (some d)) → H' d = some (exd d (xFs fl args t)) → H' t = some (.tup (.str nm :: args)) → Q .non H'
structure XMk (P : Program) (w : World) (K : PySem.W.Frag) (mg : Str → Option Value) (base : Heap) (x : Str) (C : Addr) (nm : Str) (fl : List Str) : Prop where
  oex : OexG K C
  glo : mg x = some (.ref C)
  ini : ∃ (f : Addr) (fd : FuncData) (ps : List Str), PySem.W.findIn K (.ref C) "__init__" = some (some (.ref f)) ∧ PySem.W.typeIn K (.ref f) = some (.type "function") ∧ FnOk P w K mg base CX0 1 f fd ps (spX C nm fl) ∧ Binds K fd ps []
def tMkX (C : Addr) (nm : Str) (fl : List Str) (ta : TA) : L2.St → Hp → XK → Prop := fun σ H Q => ta σ H fun vs H1 => vs.length = fl.length ∧
  ∀ (d t : Addr) (H' : Hp), H1 d = none → H1 t = none → Ex H1 H' → H' d = some (.xd (xFs fl vs t)) → H' t = some (.tup (.str nm :: vs)) → Q (.ref C) (some d) H'
section
variable {X : Cx} {x nm : Str} {C : Addr} {fl : List Str} {e : Expr} {es : List Expr} {ta : TA} {p pos : Pos}
theorem pmk_x (M : XMk X.prog X.w X.K X.mg X.base x C nm fl) (hfl : fl.length ≤ 10) (hr : Room 2 X.A) (hg : Gl X x) (ha : PA X (e :: es) ta)
    (hdb : (x == ("__debug__" : Str)) = false := by decide) (he : starEach (e :: es) X.env = (false, eval e X.env) :: starEach es X.env := by rfl) (hpl : (backTo pos (starEach es X.env)).any (·.1) = false := by rfl) :
    PMk X (.Call (.Name x p) (e :: es) [] pos) (tMkX C nm fl ta) := by
  obtain ⟨f, fd, ps, h1, h2, h3, h4⟩ := M.ini
  have ha' : PA X (e :: es) (fun σ H Q => ∃ Q0 : List V → Hp → Prop, ta σ H Q0 ∧ ∀ vs H', Q0 vs H' → Q vs H') :=
    ⟨fun pos pins s σ H Q I ⟨Q0, h, k⟩ => thn (ha.run pos pins s σ H Q0 I h) fun us s1 ⟨vs, H1, I1, r, q⟩ => ⟨vs, H1, I1, r, k vs H1 q⟩⟩
  obtain ⟨b, hb, T⟩ := M.oex
  have G := pmk_oexG (p := p) (pos := pos) hb T h1 h2 h3 hr h4 pass0 hg M.glo ha' hdb he hpl
  intro pins s σ H Q I h
  refine G pins s σ H Q I ⟨_, h, fun vs H1 q => ?_⟩
  obtain ⟨hl, q⟩ := q
  refine ⟨by omega, fun a na => ?_⟩
  rw [List.append_nil]
  refine ⟨a, vs, rfl, hl, upd_same, fun d t H2 nd nt k ea ed et => ⟨rfl, d, _, ea, ed, (upd_none nd).2, ?_⟩⟩
  have dne := (upd_none nd).1
  have td : t ≠ d := fun z => by
    rw [z, ed] at et
    exact exd_tup (Option.some.inj et)
  have tn := (upd_none nt).1
  refine q d t _ (upd_none nd).2 (upd_none nt).2 (fun b o hb => ?_) upd_same ?_
  · have nb : b ≠ a := ne_of_none hb na
    rw [upd_ne (ne_of_none hb (upd_none nd).2), del_ne nb]
    exact k b o nb (by rw [upd_ne nb]; exact hb)
  · rw [upd_ne td, del_ne tn]
    exact et
end
/-! ### calls of defs that may let an exception out -/
section
variable {X : Cx} {W : WX} {g : Bool} {k n : Nat} {d : He.DefD} {ps ks : List Str} {sp : Sp} {x : Str} {p pos : Pos} {e : Expr} {es : List Expr} {kws : List Keyword} {t tk : TA} {gV : List V → List V → List V}
theorem run_fx {f : Addr} {fd : FuncData} {pins : List (Addr × Obj)} {σ : L2.St} {H : Hp} {s : Shared} {Q : VK} {args : Args} {us : List Value} {vs : List V}
    (F : Fq g X.prog X.w X.K X.mg X.base (L2.CX X.prog X.w) k f fd ps sp) (hg : Gd g X.A) (hr : Room k X.A) (hb : BindsTo s fd args (ps.zip us)) (hx : Takes X W) (I : Inv X pins σ H s) (r : Vals vs us) (h : sp vs H Q (fun cls d H' => W cls d σ H')) :
    codeAny (model X.prog X.w) X.A (.call (.ref f) args) (fun r s' => match r with
      | .ok (.ret v) => EP X pins σ Q v s' | .ok _ => False | .error e => X.xe e s') s := by
  refine codeAny_mono (F.go X.A X.stack s H args us vs Q _ hg hr I.env0 hb r h) fun r s' hq => ?_
  cases r with
  | error e => exact hx e s' (XE.of_call I (fun _ _ _ z => z) hq)
  | ok fl =>
    cases fl with
    | ret u => exact I.after hq
    | _ => exact hq.elim
def tOX (n m : Nat) (sp : Sp) (gV : List V → List V → List V) (W : WX) (t tk : TA) : TE := fun σ H Q => t σ H fun vs H1 => tk σ H1 fun zs H2 =>
  vs.length = n ∧ zs.length = m ∧ sp (gV vs zs) H2 Q (fun cls d H' => W cls d σ H')
theorem pe_oX (F : Fo g X.prog X.w X.K X.mg X.base (L2.CX X.prog X.w) k d ps sp) (hm : X.mg x = some (.ref (He.fAd X.K d.at_)))
    (hb : ∀ fd, FunD X.K d.name d.qual d.params d.body d.scope (d.dvs X.K) (d.kws X.K) (He.fAd X.K d.at_) fd → Bw X.K fd ps n [] gV)
    (hg : Gd g X.A) (hr : Room k X.A) (gl : Gl X x) (hx : Takes X W) (ha : PA X (e :: es) t) (hdb : (x == ("__debug__" : Str)) = false := by decide)
    (he : starEach (e :: es) X.env = (false, eval e X.env) :: starEach es X.env := by rfl) (hpl : (backTo pos (starEach es X.env)).any (·.1) = false := by rfl) :
    PE X (.Call (.Name x p) (e :: es) [] pos) (tOX n 0 sp gV W t tNil) := by
  obtain ⟨fd, F1, FD⟩ := F
  refine ⟨fun pins s σ H Q I h => wpAny_Call_Name_kw (ld_glob I gl hm ?_ hdb)⟩
  refine PySem.W.callWith_K (h₀ := X.base) I.ok.mod.kin FD.kp (thn (ha.run pos pins s σ H _ I h) fun us s1 q => ?_) he hpl
  obtain ⟨vs, H1, I1, r, l1, l2, q⟩ := q
  obtain ⟨zs, hB, hV⟩ := hb fd FD s1 us [] I1.kIn (r.length.symm.trans l1) rfl
  exact ⟨I1.kIn, wpAny_call (run_fx F1 hg hr hB hx I1 (hV vs [] r .nil) q)⟩
theorem pe_ok0X (F : Fo g X.prog X.w X.K X.mg X.base (L2.CX X.prog X.w) k d ps sp) (hm : X.mg x = some (.ref (He.fAd X.K d.at_)))
    (hb : ∀ fd, FunD X.K d.name d.qual d.params d.body d.scope (d.dvs X.K) (d.kws X.K) (He.fAd X.K d.at_) fd → Bw X.K fd ps 0 ks gV)
    (hg : Gd g X.A) (hr : Room k X.A) (gl : Gl X x) (hx : Takes X W) (hkw : PK X kws tk) (hall : (backToKw pos (keywordEach kws X.env)).all (·.1.isSome) = true := by rfl)
    (hks : (backToKw pos (keywordEach kws X.env)).filterMap (·.1) = ks := by rfl) (hdb : (x == ("__debug__" : Str)) = false := by decide)
    (hpl : ((backTo pos (starEach [] X.env)).any (·.1) || (backToKw pos (keywordEach kws X.env)).any (·.1.isNone)) = false := by rfl) :
    PE X (.Call (.Name x p) [] kws pos) (tOX 0 ks.length sp gV W tNil tk) := by
  obtain ⟨fd, F1, FD⟩ := F
  refine ⟨fun pins s σ H Q I h => wpAny_Call_Name_kw (ld_glob I gl hm ?_ hdb)⟩
  refine PySem.W.callWith_KW0 (h₀ := X.base) I.ok.mod.kin FD.kp hall (thn (hkw.run pos pins s σ H _ I h) fun ws s2 q2 => ?_) hpl
  obtain ⟨ys, H2, I2, rz, l1, l2, q3⟩ := q2
  rw [hks]
  obtain ⟨zs, hB, hV⟩ := hb fd FD s2 [] ws I2.kIn rfl (rz.length.symm.trans l2)
  exact ⟨I2.kIn, wpAny_call (run_fx F1 hg hr hB hx I2 (hV [] ys .nil rz) q3)⟩
end
/-- nothing is let out -/
theorem takes_no {X : Cx} : Takes X (fun _ _ _ _ => False) := fun u s' ⟨_, _, _, _, _, _, _, _, _, _, _, _, _, _, _, _, w⟩ => w.elim
/-! ### the rest of __init__: self.f, .., self.told_parts = (f, .., ('N', f, ..)) -/
theorem args1 {f : Str} {args : List V} (h : args.length = [f].length) : ∃ v, args = [v] := by
  match args, h with
  | [v], _ => exact ⟨v, rfl⟩
theorem args2 {f g : Str} {args : List V} (h : args.length = [f, g].length) : ∃ v u, args = [v, u] := by
  match args, h with
  | [v, u], _ => exact ⟨v, u, rfl⟩
section
variable {K : PySem.W.Frag} {C a : Addr} {nm f g : Str} {v u : V} {H : Hp} {Q : VK}
theorem init1 (T : OexG K C) (h1 : NoAttr K C f) (h2 : NoAttr K C "told_parts") (ha : H a = some (exo a C none))
    (hq : ∀ (d t : Addr) (H' : Hp), H d = none → H t = none → (∀ b o, b ≠ a → H b = some o → H' b = some o) → H' a = some (exo a C (some d)) → H' d = some (exd d (xFs [f] [v] t)) → H' t = some (.tup (.str nm :: [v])) → Q .non H') :
    tAsg (tTup (tCons (tVar 1) (tCons (tTup (tCons (tC (.str nm)) (tCons (tVar 1) tNil))) tNil))) (gTup K 2 (gCons (gOst K f (tVar 0)) (gCons (gOst K "told_parts" (tVar 0)) gNil))) { nx := fun _ H' => Q .non H', rt := Q } [some (.ref a), some v] H := by
  refine ⟨v, rfl, v, rfl, (show 2 ≤ sizeLine by decide), fun t nt => ⟨(show 2 ≤ sizeLine by decide), fun p np => ⟨p, _, rfl, .inl (.inl upd_same), rfl, v, [.ref t], rfl, .ref a, rfl, a, C, rfl, T, h1, .inl ⟨?_, fun d nd dne => ⟨.ref t, [], rfl, .ref a, rfl, a, C, rfl, T, h2, .inr ⟨d, [(f, v)], upd_same, ?_, (show 1 ≤ 900 by decide), rfl, ?_⟩⟩⟩⟩⟩⟩
  · rw [upd_ne (ne_of_none (by rw [upd_ne (ne_of_none ha nt)]; exact ha) np), upd_ne (ne_of_none ha nt)]
    exact ha
  · rw [upd_ne dne, upd_same]
  · have ndp := upd_none nd
    have ndt := upd_none ndp.2
    have na : a ≠ t := ne_of_none ha nt
    have npt := upd_none np
    refine hq d t _ ndt.2 nt (fun b o nb hb => ?_) ?_ upd_same ?_
    · rw [upd_ne (ne_of_none hb ndt.2), upd_ne nb, upd_ne (ne_of_none hb ndt.2), upd_ne (ne_of_none hb npt.2), upd_ne (ne_of_none hb nt)]
      exact hb
    · rw [upd_ne dne.symm, upd_same]
    · rw [upd_ne ndt.1.symm, upd_ne na.symm, upd_ne ndt.1.symm, upd_ne npt.1.symm, upd_same]
theorem init2 (T : OexG K C) (h1 : NoAttr K C f) (h1' : NoAttr K C g) (h2 : NoAttr K C "told_parts") (ha : H a = some (exo a C none))
    (hq : ∀ (d t : Addr) (H' : Hp), H d = none → H t = none → (∀ b o, b ≠ a → H b = some o → H' b = some o) → H' a = some (exo a C (some d)) → H' d = some (exd d (xFs [f, g] [v, u] t)) → H' t = some (.tup (.str nm :: [v, u])) → Q .non H') :
    tAsg (tTup (tCons (tVar 1) (tCons (tVar 2) (tCons (tTup (tCons (tC (.str nm)) (tCons (tVar 1) (tCons (tVar 2) tNil)))) tNil)))) (gTup K 3 (gCons (gOst K f (tVar 0)) (gCons (gOst K g (tVar 0)) (gCons (gOst K "told_parts" (tVar 0)) gNil)))) { nx := fun _ H' => Q .non H', rt := Q } [some (.ref a), some v, some u] H := by
  refine ⟨v, rfl, u, rfl, v, rfl, u, rfl, (show 3 ≤ sizeLine by decide), fun t nt => ⟨(show 3 ≤ sizeLine by decide), fun p np => ⟨p, _, rfl, .inl (.inl upd_same), rfl, v, [u, .ref t], rfl, .ref a, rfl, a, C, rfl, T, h1, .inl ⟨?_, fun d nd dne => ⟨u, [.ref t], rfl, .ref a, rfl, a, C, rfl, T, h1', .inr ⟨d, [(f, v)], upd_same, ?_, (show 1 ≤ 900 by decide),
    .ref t, [], rfl, .ref a, rfl, a, C, rfl, T, h2, .inr ⟨d, [(g, u), (f, v)], ?_, upd_same, (show 2 ≤ 900 by decide), rfl, ?_⟩⟩⟩⟩⟩⟩⟩
  · rw [upd_ne (ne_of_none (by rw [upd_ne (ne_of_none ha nt)]; exact ha) np), upd_ne (ne_of_none ha nt)]
    exact ha
  · rw [upd_ne dne, upd_same]
  · rw [upd_ne dne.symm, upd_same]
  · have ndp := upd_none nd
    have ndt := upd_none ndp.2
    have na : a ≠ t := ne_of_none ha nt
    have npt := upd_none np
    refine hq d t _ ndt.2 nt (fun b o nb hb => ?_) ?_ upd_same ?_
    · rw [upd_ne (ne_of_none hb ndt.2), upd_ne (ne_of_none hb ndt.2), upd_ne nb, upd_ne (ne_of_none hb ndt.2), upd_ne (ne_of_none hb npt.2), upd_ne (ne_of_none hb nt)]
      exact hb
    · rw [upd_ne dne.symm, upd_ne dne.symm, upd_same]
    · rw [upd_ne ndt.1.symm, upd_ne ndt.1.symm, upd_ne na.symm, upd_ne ndt.1.symm, upd_ne npt.1.symm, upd_same]
end
end Ab

set_option Elab.async false
set_option linter.all false
set_option maxRecDepth 100000
set_option maxHeartbeats 4000000
/-! AbT: values whose kind is known. -/
namespace Ab
open PySem PySem.Spec PyProof.Rows L2
def isInt : V → Bool
  | .int _ => true
  | _ => false
def isStr : V → Bool
  | .str _ => true
  | _ => false
def isBl : V → Bool
  | .bl _ => true
  | _ => false
/-- a value whose kind is known -/
def Ty (K : PySem.W.Frag) (H : Hp) : V → Prop
  | .non => True
  | .bl _ => True
  | .int _ => True
  | .str z => (cs z).length ≤ 1000000
  | .ref a => ∃ t, TyX K H (.ref a) t ∧ PySem.W.kitOne K t (.type "int") = some false ∧ PySem.W.kitOne K t (.type "str") = some false ∧ PySem.W.kitOne K t (.type "bool") = some false
  | _ => False
section
variable {K : PySem.W.Frag} {H : Hp} {v : V} {Q : VK}
theorem is_int (h : Ty K H v) (q : Q (.bl (isInt v || isBl v)) H) : rIsi K [v, .ty "int"] H Q := by
  cases v with
  | non => exact ⟨_, _, _, _, false, rfl, .ty _, .base .non, kit_ty (show kitB "NoneType" "int" = some false by decide +kernel), q⟩
  | bl b => exact ⟨_, _, _, _, true, rfl, .ty _, .base (.bl b), kit_ty (show kitB "bool" "int" = some true by decide +kernel), q⟩
  | int i => exact ⟨_, _, _, _, true, rfl, .ty _, .base (.int i), kit_ty (show kitB "int" "int" = some true by decide +kernel), q⟩
  | str z => exact ⟨_, _, _, _, false, rfl, .ty _, .base (.str z), kit_ty (show kitB "str" "int" = some false by decide +kernel), q⟩
  | ref a => obtain ⟨t, h1, h2, h3, h4⟩ := h; exact ⟨_, _, _, _, _, rfl, .ty _, h1, h2, q⟩
  | byt _ => exact h.elim
  | flt _ => exact h.elim
  | ty _ => exact h.elim
theorem is_str (h : Ty K H v) (q : Q (.bl (isStr v)) H) : rIsi K [v, .ty "str"] H Q := by
  cases v with
  | non => exact ⟨_, _, _, _, false, rfl, .ty _, .base .non, kit_ty (show kitB "NoneType" "str" = some false by decide +kernel), q⟩
  | bl b => exact ⟨_, _, _, _, false, rfl, .ty _, .base (.bl b), kit_ty (show kitB "bool" "str" = some false by decide +kernel), q⟩
  | int i => exact ⟨_, _, _, _, false, rfl, .ty _, .base (.int i), kit_ty (show kitB "int" "str" = some false by decide +kernel), q⟩
  | str z => exact ⟨_, _, _, _, true, rfl, .ty _, .base (.str z), kit_ty (show kitB "str" "str" = some true by decide +kernel), q⟩
  | ref a => obtain ⟨t, h1, h2, h3, h4⟩ := h; exact ⟨_, _, _, _, _, rfl, .ty _, h1, h3, q⟩
  | byt _ => exact h.elim
  | flt _ => exact h.elim
  | ty _ => exact h.elim
theorem is_bool (h : Ty K H v) (q : Q (.bl (isBl v)) H) : rIsi K [v, .ty "bool"] H Q := by
  cases v with
  | non => exact ⟨_, _, _, _, false, rfl, .ty _, .base .non, kit_ty (show kitB "NoneType" "bool" = some false by decide +kernel), q⟩
  | bl b => exact ⟨_, _, _, _, true, rfl, .ty _, .base (.bl b), kit_ty (show kitB "bool" "bool" = some true by decide +kernel), q⟩
  | int i => exact ⟨_, _, _, _, false, rfl, .ty _, .base (.int i), kit_ty (show kitB "int" "bool" = some false by decide +kernel), q⟩
  | str z => exact ⟨_, _, _, _, false, rfl, .ty _, .base (.str z), kit_ty (show kitB "str" "bool" = some false by decide +kernel), q⟩
  | ref a => obtain ⟨t, h1, h2, h3, h4⟩ := h; exact ⟨_, _, _, _, _, rfl, .ty _, h1, h4, q⟩
  | byt _ => exact h.elim
  | flt _ => exact h.elim
  | ty _ => exact h.elim
end
section
variable {K : PySem.W.Frag} {H : Hp} {a : Addr} {xs : List V} {kvs : List (Key × V)}
theorem Ty.lst (h : H a = some (.lst xs)) : Ty K H (.ref a) := ⟨_, .base (.lst h), kit_ty (show kitB "list" "int" = some false by decide +kernel), kit_ty (show kitB "list" "str" = some false by decide +kernel), kit_ty (show kitB "list" "bool" = some false by decide +kernel)⟩
theorem Ty.tup (h : H a = some (.tup xs)) : Ty K H (.ref a) := ⟨_, .base (.tup h), kit_ty (show kitB "tuple" "int" = some false by decide +kernel), kit_ty (show kitB "tuple" "str" = some false by decide +kernel), kit_ty (show kitB "tuple" "bool" = some false by decide +kernel)⟩
theorem Ty.dK (h : H a = some (.dK kvs)) : Ty K H (.ref a) := ⟨_, .base (.dK h), kit_ty (show kitB "dict" "int" = some false by decide +kernel), kit_ty (show kitB "dict" "str" = some false by decide +kernel), kit_ty (show kitB "dict" "bool" = some false by decide +kernel)⟩
end
/-- an own exception with these fields is let out -/
def Lets (E : XK) (C : Addr) (nm : Str) (fl : List Str) (vs : List V) (H : Hp) : Prop := ∀ (d t : Addr) (H' : Hp), H d = none → H t = none → Ex H H' → H' d = some (.xd (xFs fl vs t)) → H' t = some (.tup (.str nm :: vs)) → E (.ref C) (some d) H'
/-! ### choices out of written lists -/
def strLe (b : Nat) : V → Bool
  | .str z => decide ((cs z).length ≤ b)
  | _ => false
theorem strs_le {b : Nat} {xs : List V} (h : xs.all (strLe b) = true) {v : V} (hv : v ∈ xs) : ∃ z, v = .str z ∧ (cs z).length ≤ b := by
  have := List.all_eq_true.mp h v hv
  cases v with
  | str z => exact ⟨z, rfl, of_decide_eq_true this⟩
  | _ => cases this
def intIn (a b : Int) : V → Bool
  | .int i => decide (a ≤ i ∧ i ≤ b)
  | _ => false
theorem ints_in {a b : Int} {xs : List V} (h : xs.all (intIn a b) = true) {v : V} (hv : v ∈ xs) : ∃ i, v = .int i ∧ a ≤ i ∧ i ≤ b := by
  have := List.all_eq_true.mp h v hv
  cases v with
  | int i => exact ⟨i, rfl, of_decide_eq_true this⟩
  | _ => cases this
section
variable {K : PySem.W.Frag} {r p : Addr} {H : Hp} {xs : List V} {Q : VK} {E : XK}
theorem choose (hR : Rng r H) (hp : H p = none) (hne : xs ≠ []) (hl : xs.length ≤ 100000) (k : ∀ v H', v ∈ xs → Dr r H H' → Q v H') : spChoice K [.ref r, .ref p] (upd H p (.lst xs)) Q E :=
  ⟨r, p, xs, rfl, hR.ex (Ex.new hp), hR.ne hp, SqL.of upd_same, hne, hl, fun v H' hv d => k v H' hv ((Dr.new hR hp).trans d)⟩
theorem chooseS (b : Nat) (hR : Rng r H) (hp : H p = none) (h : xs.all (strLe b) = true) (hne : xs ≠ []) (hl : xs.length ≤ 100000) (k : ∀ (z : Str) H', (cs z).length ≤ b → Dr r H H' → Q (.str z) H') : spChoice K [.ref r, .ref p] (upd H p (.lst xs)) Q E :=
  choose hR hp hne hl fun v H' hv d => by
    obtain ⟨z, rfl, hz⟩ := strs_le h hv
    exact k z H' hz d
theorem chooseI (a b : Int) (hR : Rng r H) (hp : H p = none) (h : xs.all (intIn a b) = true) (hne : xs ≠ []) (hl : xs.length ≤ 100000) (k : ∀ (i : Int) H', a ≤ i → i ≤ b → Dr r H H' → Q (.int i) H') : spChoice K [.ref r, .ref p] (upd H p (.lst xs)) Q E :=
  choose hR hp hne hl fun v H' hv d => by
    obtain ⟨z, rfl, h1, h2⟩ := ints_in h hv
    exact k z H' h1 h2 d
theorem drawN {m : Int} (hR : Rng r H) (m0 : 0 < m) (m1 : m ≤ 100000) (k : ∀ (n : Nat) H', (n : Int) < m → Dr r H H' → Q (.int n) H') : spDraw [.ref r, .int m] H Q E :=
  ⟨r, m, rfl, hR, m0, m1, fun i H' h0 h1 d => by
    obtain ⟨n, rfl⟩ := Int.eq_ofNat_of_zero_le h0
    exact k n H' h1 d⟩
end
/-- a sum of small lengths -/
theorem sum_le {b : Nat} : ∀ {zs : List Str}, (∀ z ∈ zs, (cs z).length ≤ b) → (zs.map (·.length)).sum ≤ zs.length * b
  | [], _ => by simp
  | z :: zs, h => by
    have h1 := h z List.mem_cons_self
    have h2 := sum_le (zs := zs) fun u hu => h u (List.mem_cons_of_mem _ hu)
    rw [List.map_cons, List.sum_cons, List.length_cons, cs_len, Nat.succ_mul]
    omega
theorem joinL_len (s : List Nat) : ∀ ps : List (List Nat), (TL.joinL s ps).length ≤ (ps.map List.length).sum + ps.length * s.length
  | [] => by simp [TL.joinL]
  | [p] => by simp [TL.joinL]
  | p :: q :: r => by
    show (p ++ (s ++ TL.joinL s (q :: r))).length ≤ _
    have := joinL_len s (q :: r)
    rw [List.length_append, List.length_append, List.map_cons, List.sum_cons, List.length_cons, Nat.succ_mul]
    omega
theorem join_len (s : Str) (zs : List Str) {b : Nat} (h : ∀ z ∈ zs, (cs z).length ≤ b) : (cs (Txt.join s zs)).length ≤ zs.length * (b + (cs s).length) := by
  have e : cs (Txt.join s zs) = TL.joinL (cs s) (zs.map cs) := by rw [TL.join_eq]; exact TL.tl_join s zs
  rw [e]
  refine Nat.le_trans (joinL_len _ _) ?_
  have h2 := sum_le h
  have e2 : ((zs.map cs).map List.length) = zs.map (·.length) := by
    rw [List.map_map]
    exact List.map_congr_left fun z _ => (cs_len z).symm
  rw [e2, List.length_map, Nat.mul_add]
  omega
theorem cutS_le (z : Str) (lo hi : Option Int) : (cs (cutS z lo hi)).length ≤ (cs z).length := by
  rw [← cs_len, ← cs_len]
  exact cutS_length z lo hi
theorem cut_two (z : Str) (a b : Nat) (h : a ≤ b) : (cs (cutS z none (some (a : Int)))).length + (cs (cutS z (some (b : Int)) none)).length ≤ (cs z).length := by
  unfold cutS
  rw [HT.sIx_nat, HT.sIx_nat, HT.sIx_none, HT.sIx_none, cs_len]
  simp only [cs, List.length_take, List.length_drop]
  omega
/-- the flag is no harm -/
theorem Fq.up {P : Program} {w : World} {K : PySem.W.Frag} {mg : Str → Option Value} {base : Heap} {CX : CXT} {k : Nat} {f : Addr} {fd : FuncData} {ps : List Str} {sp : Sp} (F : Fq false P w K mg base CX k f fd ps sp) : Fq true P w K mg base CX k f fd ps sp :=
  ⟨F.len, fun A outer s H args us vs Q E _ => F.go A outer s H args us vs Q E gd_false⟩
end Ab

set_option Elab.async false
set_option linter.all false
set_option maxRecDepth 100000
set_option maxHeartbeats 4000000
/-! AbQ: == and != of equal things: flat values, lists, tuples, at any depth. -/
namespace Ab
open PySem PySem.Spec PyProof.Rows L2
def SimV (K : PySem.W.Frag) (H : Hp) : Nat → V → V → Prop
  | 0 => fun _ _ => False
  | n + 1 => fun x y => (x = y ∧ flatV x = true) ∨ (∃ a, x = .ref a ∧ y = .ref a) ∨ ∃ a b xs ys, x = .ref a ∧ y = .ref b ∧ ((SqL K H a xs ∧ SqL K H b ys) ∨ (SqT K H a xs ∧ SqT K H b ys)) ∧ Paired (SimV K H n) xs ys
def SimR (K : PySem.W.Frag) (H : Hp) (n : Nat) (x y : V) : Prop := (x = y ∧ flatV x = true) ∨ ∃ a b xs ys, x = .ref a ∧ y = .ref b ∧ ((SqL K H a xs ∧ SqL K H b ys) ∨ (SqT K H a xs ∧ SqT K H b ys)) ∧ Paired (SimV K H n) xs ys
theorem SimR.v {K : PySem.W.Frag} {H : Hp} {n : Nat} {x y : V} (h : SimR K H n x y) : SimV K H (n + 1) x y := h.elim .inl fun h => .inr (.inr h)
theorem flatB_of {v : V} (h : flatV v = true) : flatB v = true := by cases v <;> first | rfl | cases h
theorem scal_of {v : V} (h : flatV v = true) : scal v v = true := by cases v <;> first | rfl | cases h
section
variable {X : Cx} {pins : List (Addr × Obj)} {σ : L2.St} {H : Hp} {s : Shared}
theorem items_at {A : Around} {F : V → V → Prop} (ih : ∀ x y v u, F x y → RelV x v → RelV y u → SeqAt.EqAt A s v u true) {xs ys : List V} (hp : Paired F xs ys) :
    ∀ {us ws : List Value}, Vals xs us → Vals ys ws → ∀ j (h1 : j < us.length) (h2 : j < ws.length), SeqAt.EqAt A s us[j] ws[j] true := by
  induction hp with
  | nil =>
    intro us ws r1 r2 j h1 h2
    cases r1
    exact absurd h1 (Nat.not_lt_zero j)
  | cons h _ k =>
    intro us ws r1 r2 j h1 h2
    cases r1 with
    | cons a1 b1 =>
      cases r2 with
      | cons a2 b2 =>
        cases j with
        | zero => exact ih _ _ _ _ h a1 a2
        | succ j => exact k b1 b2 j (Nat.lt_of_succ_lt_succ h1) (Nat.lt_of_succ_lt_succ h2)
theorem all_true (n : Nat) : ((List.range n).all fun _ => true) = true := List.all_eq_true.mpr fun _ _ => rfl
theorem pair_at (I : Inv X pins σ H s) {A : Around} {F : V → V → Prop} (hu : A.units < cLine) (ih : ∀ x y v u, F x y → RelV x v → RelV y u → SeqAt.EqAt A.in1 s v u true) {a b : Addr} {xs ys : List V}
    (h : (SqL X.K H a xs ∧ SqL X.K H b ys) ∨ (SqT X.K H a xs ∧ SqT X.K H b ys)) (hp : Paired F xs ys) : SeqAt.RcAt A s (.ref a) (.ref b) true ∧ SeqAt.RcNeAt A s (.ref a) (.ref b) false := by
  rcases h with ⟨ha, hb⟩ | ⟨ha, hb⟩
  · obtain ⟨us, r1, p1, _⟩ := I.list ha
    obtain ⟨ws, r2, p2, _⟩ := I.list hb
    have hsz : us.toArray.size = ws.toArray.size := by
      rw [List.size_toArray, List.size_toArray, ← r1.length, ← r2.length]
      exact Paired.length hp
    have he : ∀ j (h1 : j < us.toArray.size) (h2 : j < ws.toArray.size), SeqAt.EqAt A.in1 s us.toArray[j] ws.toArray[j] ((fun _ => true) j) := fun j h1 h2 => by
      simpa using items_at ih hp r1 r2 j (by simpa using h1) (by simpa using h2)
    have k1 := SeqAt.RcAt.lists (e := fun _ => true) p1.isList p2.isList hsz hu he
    have k2 := SeqAt.RcNeAt.lists (e := fun _ => true) p1.isList p2.isList hsz hu he
    rw [all_true] at k1 k2
    exact ⟨k1, k2⟩
  · obtain ⟨us, r1, p1, _⟩ := I.tuple ha
    obtain ⟨ws, r2, p2, _⟩ := I.tuple hb
    have hsz : us.toArray.size = ws.toArray.size := by
      rw [List.size_toArray, List.size_toArray, ← r1.length, ← r2.length]
      exact Paired.length hp
    have he : ∀ j (h1 : j < us.toArray.size) (h2 : j < ws.toArray.size), SeqAt.EqAt A.in1 s us.toArray[j] ws.toArray[j] ((fun _ => true) j) := fun j h1 h2 => by
      simpa using items_at ih hp r1 r2 j (by simpa using h1) (by simpa using h2)
    have k1 := SeqAt.RcAt.tuples (e := fun _ => true) p1 p2 hu he
    have k2 := SeqAt.RcNeAt.tuples (e := fun _ => true) p1 p2 hu he
    rw [all_true, hsz, beq_self_eq_true] at k1 k2
    exact ⟨k1, k2⟩
theorem sim_at (I : Inv X pins σ H s) : ∀ (n : Nat) (A : Around), A.units + n < cLine → ∀ (x y : V) (v u : Value), SimV X.K H n x y → RelV x v → RelV y u → SeqAt.EqAt A s v u true
  | 0, _, _, _, _, _, _, h, _, _ => (show False from h).elim
  | n + 1, A, hu, x, y, v, u, h, rx, ry => by
    rcases h with ⟨rfl, f⟩ | ⟨a, rfl, rfl⟩ | ⟨a, b, xs, ys, rfl, rfl, h, hp⟩
    · exact eqAt_same rx ry (flatB_of f)
    · cases (show v = Value.ref a from rx)
      cases (show u = Value.ref a from ry)
      exact SeqAt.EqAt.same _
    · cases (show v = Value.ref a from rx)
      cases (show u = Value.ref b from ry)
      by_cases e : a = b
      · subst e
        exact SeqAt.EqAt.same _
      · exact SeqAt.EqAt.of_refs e (pair_at I (A := A) (by omega) (sim_at I n A.in1 (by show A.units + 1 + n < cLine; omega)) h hp).1
end
def rSimE (K : PySem.W.Frag) : R2 := fun x y H Q => ∃ n, n ≤ 60 ∧ SimR K H n x y ∧ Q (.bl true) H
def rSimN (K : PySem.W.Frag) : R2 := fun x y H Q => ∃ n, n ≤ 60 ∧ SimR K H n x y ∧ Q (.bl false) H
section
variable {X : Cx}
theorem op_simE (hu : X.A.units + 64 < cLine) : OpR X (compareOp .Eq) (rSimE X.K) := by
  intro pins s σ H x y v u Q I rx ry h
  obtain ⟨n, hn, h, q⟩ := h
  rcases h with ⟨rfl, f⟩ | ⟨a, b, xs, ys, rfl, rfl, h, hp⟩
  · exact op_eq pins s σ H x x v u Q I rx ry ⟨scal_of f, by rw [decide_eq_true rfl]; exact q⟩
  · cases (show v = Value.ref a from rx)
    cases (show u = Value.ref b from ry)
    exact (pair_at I (A := X.A) (by omega) (sim_at I n X.A.in1 (by show X.A.units + 1 + n < cLine; omega)) h hp).1 _ _ _ _ ⟨.bl true, H, I, rfl, q⟩
theorem op_simN (hu : X.A.units + 64 < cLine) : OpR X (compareOp .NotEq) (rSimN X.K) := by
  intro pins s σ H x y v u Q I rx ry h
  obtain ⟨n, hn, h, q⟩ := h
  rcases h with ⟨rfl, f⟩ | ⟨a, b, xs, ys, rfl, rfl, h, hp⟩
  · exact op_ne pins s σ H x x v u Q I rx ry ⟨scal_of f, by rw [decide_eq_true rfl]; exact q⟩
  · cases (show v = Value.ref a from rx)
    cases (show u = Value.ref b from ry)
    exact (pair_at I (A := X.A) (by omega) (sim_at I n X.A.in1 (by show X.A.units + 1 + n < cLine; omega)) h hp).2 _ _ _ _ ⟨.bl false, H, I, rfl, q⟩
end
/-- flat items -/
theorem sim_flat {K : PySem.W.Frag} {H : Hp} {n : Nat} : ∀ {xs : List V}, (∀ x ∈ xs, flatV x = true) → Paired (SimV K H (n + 1)) xs xs
  | [], _ => .nil
  | x :: xs, h => .cons (.inl ⟨rfl, h x List.mem_cons_self⟩) (sim_flat fun y hy => h y (List.mem_cons_of_mem _ hy))
theorem SimR.flatL {K : PySem.W.Frag} {H : Hp} {a b : Addr} {xs : List V} (ha : SqL K H a xs) (hb : SqL K H b xs) (h : ∀ x ∈ xs, flatV x = true) : SimR K H 1 (.ref a) (.ref b) := .inr ⟨a, b, xs, xs, rfl, rfl, .inl ⟨ha, hb⟩, sim_flat h⟩
theorem SimR.flatT {K : PySem.W.Frag} {H : Hp} {a b : Addr} {xs : List V} (ha : SqT K H a xs) (hb : SqT K H b xs) (h : ∀ x ∈ xs, flatV x = true) : SimR K H 1 (.ref a) (.ref b) := .inr ⟨a, b, xs, xs, rfl, rfl, .inr ⟨ha, hb⟩, sim_flat h⟩
theorem SimV.mono {K : PySem.W.Frag} {H : Hp} : ∀ {n m : Nat} {x y : V}, n ≤ m → SimV K H n x y → SimV K H m x y
  | 0, _, _, _, _, h => (show False from h).elim
  | n + 1, 0, _, _, h, _ => absurd h (by omega)
  | n + 1, m + 1, x, y, hm, h => by
    rcases h with h | h | ⟨a, b, xs, ys, e1, e2, h, hp⟩
    · exact .inl h
    · exact .inr (.inl h)
    · refine .inr (.inr ⟨a, b, xs, ys, e1, e2, h, ?_⟩)
      clear h e1 e2
      induction hp with
      | nil => exact .nil
      | cons q _ k => exact .cons (SimV.mono (by omega) q) k
end Ab

set_option Elab.async false
set_option linter.all false
set_option maxRecDepth 100000
set_option maxHeartbeats 4000000
/-! AbV: repr of data: flat values, lists and tuples at any depth, dicts of flat values. -/
namespace Ab
open PySem PySem.Spec PyProof.Rows L2
def fD : V → PyData
  | .bl b => .bool b
  | .int i => .int i
  | .str z => .str z
  | _ => .none
theorem fD_dp {K : PySem.W.Frag} {H : Hp} {v : V} (h : flatV v = true) : Dp K H v (fD v) := by
  cases v with
  | non => exact .non
  | bl b => exact .bl b
  | int i => exact .int i
  | str z => exact .str z
  | _ => cases h
theorem fD_all {K : PySem.W.Frag} {H : Hp} : ∀ {vs : List V}, (∀ v ∈ vs, flatV v = true) → DpAll K H vs (vs.map fD)
  | [], _ => .nil
  | v :: vs, h => .cons (fD_dp (h v List.mem_cons_self)) (fD_all fun x hx => h x (List.mem_cons_of_mem _ hx))
theorem fD_reads {h : Heap} {v : V} {u : Value} (f : flatV v = true) (r : RelV v u) : Reads h u (fD v) [] := by
  cases v with
  | non => cases r; exact .none
  | bl b => cases r; exact .bool b
  | int i => obtain ⟨t, rfl⟩ := r; exact .int i t
  | str z => obtain ⟨t, rfl⟩ := r; exact .str z t
  | _ => cases f
def Rdt (K : PySem.W.Frag) (H : Hp) (v : V) (d : PyData) : Prop := Dp K H v d ∨ ∃ a kvs, v = .ref a ∧ H a = some (.dK kvs) ∧ (∀ p ∈ kvs, flatV p.2 = true) ∧ d = .dict (kvs.map fun p => (fD (kV p.1), fD p.2))
mutual
theorem dp_nodict {K : PySem.W.Frag} {H : Hp} : ∀ (d : PyData) (v : V), Dp K H v d → d.hasDict = false
  | .none, _, _ => rfl
  | .bool _, _, _ => rfl
  | .int _, _, _ => rfl
  | .str _, _, _ => rfl
  | .list xs, _, h => by
    cases h with
    | lst _ h2 => exact dpAll_nodict xs _ h2
  | .tuple xs, _, h => by
    cases h with
    | tup _ h2 => exact dpAll_nodict xs _ h2
  | .dict _, _, h => by cases h
theorem dpAll_nodict {K : PySem.W.Frag} {H : Hp} : ∀ (ds : List PyData) (vs : List V), DpAll K H vs ds → PyData.hasDictAll ds = false
  | [], _, _ => rfl
  | d :: ds, _, h => by
    cases h with
    | cons h1 h2 =>
      show (d.hasDict || PyData.hasDictAll ds) = false
      rw [dp_nodict d _ h1, dpAll_nodict ds _ h2]
      rfl
end
def rReprD (K : PySem.W.Frag) : List V → Hp → VK → Prop := fun xs H Q => ∃ v d, xs = [v] ∧ Rdt K H v d ∧ d.showable = true ∧ d.depth ≤ 60 ∧ d.shown.length ≤ sizeLine ∧ Q (.str d.shown) H
section
variable {X : Cx}
theorem ents_reads {P : Program} {w : World} {h : Heap} : ∀ {kvs : List (Key × V)} {ws : List (Key × Value)} {es : List DictEntry}, KV kvs ws → Pairs (mixKind P w) es ws → (∀ p ∈ kvs, flatV p.2 = true) →
    ReadsAll h (es.map (·.key)) ((kvs.map fun p => (fD (kV p.1), fD p.2)).map (·.1)) [] ∧ ReadsAll h (es.map (·.val)) ((kvs.map fun p => (fD (kV p.1), fD p.2)).map (·.2)) []
  | _, _, _, .nil, .nil, _ => ⟨.nil, .nil⟩
  | p :: _, q :: _, e :: _, .cons r rs, .cons h1 h2 h3, hf => by
    obtain ⟨k1, k2⟩ := ents_reads (h := h) rs h3 fun x hx => hf x (List.mem_cons_of_mem _ hx)
    refine ⟨.cons (as := []) (bs := []) (fD_reads (v := kV p.1) (by cases p.1 <;> rfl) ?_) k1, .cons (as := []) (bs := []) (fD_reads (hf p List.mem_cons_self) ?_) k2⟩
    · show L2.RelV (kV p.1) e.key
      rw [r.1]
      rcases keyIs_shape h1 with ⟨i, t, e1, e2⟩ | ⟨x, t, e1, e2⟩
      · rw [e1, e2]; exact ⟨t, rfl⟩
      · rw [e1, e2]; exact ⟨t, rfl⟩
    · show L2.RelV p.2 e.val
      rw [h2]
      exact r.2
theorem call_reprD (hg : X.A.guards = some []) (hu : X.A.units + 64 < cLine) : CallR X (.builtin "repr") (rReprD X.K) := by
  intro pins s σ H xs us Q I r h
  obtain ⟨v, d, rfl, hd, hs, hdep, hsz, q⟩ := h
  obtain ⟨u, rfl, ru⟩ := vals1 r
  rcases hd with hd | ⟨a, kvs, rfl, ha, hf, rfl⟩
  · cases hd with
    | non => cases ru; exact PySem.P.repr_of_none ⟨.str _, H, I.tok _, ⟨_, rfl⟩, q⟩
    | bl b =>
      cases ru
      cases b
      · exact PySem.P.repr_of_bool (b := false) ⟨.str _, H, I.tok _, ⟨_, rfl⟩, q⟩
      · exact PySem.P.repr_of_bool (b := true) ⟨.str _, H, I.tok _, ⟨_, rfl⟩, q⟩
    | int i =>
      obtain ⟨t, rfl⟩ := ru
      exact PySem.P.repr_of_int (of_decide_eq_true hs) ⟨.str _, H, I.tok _, ⟨_, rfl⟩, q⟩
    | str x =>
      obtain ⟨t, rfl⟩ := ru
      exact PySem.P.repr_of_str ⟨.str _, H, I.tok _, ⟨_, rfl⟩, q⟩ hsz
    | @lst a xs ds h1 h2 =>
      cases ru
      obtain ⟨as, rd⟩ := Dp.reads I (.list ds) (.ref a) (.ref a) (.lst h1 h2) rfl
      exact repr_of_reads' rd hs (fun z => by rw [dp_nodict _ _ (Dp.lst h1 h2)] at z; cases z) hg (by omega) (fun _ _ e => e) (fun h' u tk kp => ⟨.str _, H, I.kept kp, ⟨u, rfl⟩, q⟩) hsz
    | @tup a xs ds h1 h2 =>
      cases ru
      obtain ⟨as, rd⟩ := Dp.reads I (.tuple ds) (.ref a) (.ref a) (.tup h1 h2) rfl
      exact repr_of_reads' rd hs (fun z => by rw [dp_nodict _ _ (Dp.tup h1 h2)] at z; cases z) hg (by omega) (fun _ _ e => e) (fun h' u tk kp => ⟨.str _, H, I.kept kp, ⟨u, rfl⟩, q⟩) hsz
  · cases ru
    obtain ⟨_, hsm, ws, rw', o, es, ep, ho, hx, hda, _, hp, _⟩ := dk_of I.hok ha
    obtain ⟨k1, k2⟩ := ents_reads (h := s.heap) rw' hp hf
    have rd : Reads s.heap (.ref a) (.dict (kvs.map fun p => (fD (kV p.1), fD p.2))) (a :: [] ++ []) := .dict ho hx.1 hda k1 k2
    exact repr_of_reads' rd hs (fun _ z => by
      have : sysModules = a := by simpa using z
      rw [← this] at hsm
      simp at hsm) hg (by omega) (fun _ _ e => e) (fun h' u tk kp => ⟨.str _, H, I.kept kp, ⟨u, rfl⟩, q⟩) hsz
theorem call_reprK {K : PySem.W.Frag} (hK : X.K = K) (hg : X.A.guards = some []) (hu : X.A.units + 64 < cLine) : CallR X (.builtin "repr") (rReprD K) := by
  subst hK
  exact call_reprD hg hu
end
end Ab

set_option Elab.async false
set_option linter.all false
set_option maxRecDepth 100000
set_option maxHeartbeats 4000000
/-! AbW: the program's values as plain functions. -/
namespace Ab
open PySem PySem.Spec PyProof.Rows L2
abbrev lets : Str := "abcdefghijklmnopqrstuvwxyz"
def isNm : V → Bool
  | .str z => decide (1 ≤ (cs z).length) && (decide ((cs z).length ≤ 8) && (cs z).all fun c => decide (c ∈ cs lets))
  | _ => false
def isCt : V → Bool
  | .int i => decide (0 ≤ i)
  | _ => false
def fitI (m : Bool) : V → Bool
  | .non => m
  | .int i => decide ((if i < 0 then -i else i) < 10 ^ 30)
  | _ => false
def fitT (m : Bool) : V → Bool
  | .non => m
  | .str z => decide ((cs z).length ≤ 60) && !decide (39 ∈ cs z)
  | _ => false
def fitB (m : Bool) : V → Bool
  | .non => m
  | .bl _ => true
  | _ => false
def isV (s v : V) (m : Bool) : Bool := if s = .str "int" then fitI m v else if s = .str "text" then fitT m v else if s = .str "truth" then fitB m v else false
theorem isV_int (v : V) (m : Bool) : isV (.str "int") v m = fitI m v := if_pos rfl
theorem isV_text (v : V) (m : Bool) : isV (.str "text") v m = fitT m v := by
  unfold isV
  rw [if_neg (by decide +kernel), if_pos rfl]
theorem isV_truth (v : V) (m : Bool) : isV (.str "truth") v m = fitB m v := by
  unfold isV
  rw [if_neg (by decide +kernel), if_neg (by decide +kernel), if_pos rfl]
theorem isV_no (s v : V) (m : Bool) (h : s ≠ .str "int" ∧ s ≠ .str "text" ∧ s ≠ .str "truth") : isV s v m = false := by
  unfold isV
  rw [if_neg h.1, if_neg h.2.1, if_neg h.2.2]
/-- [c in S for c in z] -/
theorem lc_inS {z S : Str} {j : Nat} {σ : L2.St} {H : Hp} {Q : VK} (hz : (cs z).length ≤ 1000) (hw : ∀ x, wipe ((wipe σ [j]).set j (some x)) [j] = wipe σ [j]) (hj : ∀ x, ((wipe σ [j]).set j (some x))[j]? = some (some x))
    (done : ∀ D H', H D = none → Ex H H' → H' D = some (.lst ((cs z).map fun c => .bl (decide (c ∈ cs S)))) → Q (.ref D) H') :
    LcF (Its z) (gName j) tYes (tOp (fun x y H Q => ∃ c, x = V.str { cps := #[c] } ∧ ∃ x, y = V.str x ∧ Q (V.bl (decide (c ∈ x.cps.toList))) H) (tVar j) (tC (V.str S))) [j] σ H Q := by
  have lz : z.cps.size = (cs z).length := by simp
  refine lc_val walk_str (fun _ _ => trivial) (by rw [lz]; omega) (fun i => .bl (decide ((cs z).getD i 0 ∈ cs S))) (fun i x H' H2 hi e hY Qn k => ?_) fun D H' hD e hl => done D H' hD e ?_
  · obtain ⟨rfl, c, hc, rfl⟩ := hY
    refine ⟨hw _, _, hj _, c, rfl, S, rfl, ?_⟩
    have e : (cs z).getD i 0 = c := by
      rw [List.getD_eq_getElem?_getD]
      have : (cs z)[i]? = some c := by simpa using hc
      rw [this]; rfl
    rw [← e]
    exact k _ (Same.refl _)
  · rw [hl]
    congr 2
    apply List.ext_getElem?
    intro i
    rw [List.getElem?_map, List.getElem?_map, lz]
    by_cases hi : i < (cs z).length
    · have h1 : (cs z)[i]? = some (cs z)[i] := List.getElem?_eq_getElem hi
      rw [List.getElem?_range hi, h1, Option.map_some, Option.map_some, List.getD_eq_getElem?_getD, h1]
      rfl
    · rw [List.getElem?_eq_none (by rw [List.length_range]; omega), List.getElem?_eq_none (by omega)]
      rfl
theorem lc_inV {z S : Str} {j l : Nat} {σ : L2.St} {H : Hp} {Q : VK} (hz : (cs z).length ≤ 1000) (hw : ∀ x, wipe ((wipe σ [j]).set j (some x)) [j] = wipe σ [j]) (hj : ∀ x, ((wipe σ [j]).set j (some x))[j]? = some (some x))
    (hl : ∀ x, ((wipe σ [j]).set j (some x))[l]? = some (some (.str S)))
    (done : ∀ D H', H D = none → Ex H H' → H' D = some (.lst ((cs z).map fun c => .bl (decide (c ∈ cs S)))) → Q (.ref D) H') :
    LcF (Its z) (gName j) tYes (tOp (fun x y H Q => ∃ c, x = V.str { cps := #[c] } ∧ ∃ x, y = V.str x ∧ Q (V.bl (decide (c ∈ x.cps.toList))) H) (tVar j) (tVar l)) [j] σ H Q := by
  have lz : z.cps.size = (cs z).length := by simp
  refine lc_val walk_str (fun _ _ => trivial) (by rw [lz]; omega) (fun i => .bl (decide ((cs z).getD i 0 ∈ cs S))) (fun i x H' H2 hi e hY Qn k => ?_) fun D H' hD e hl => done D H' hD e ?_
  · obtain ⟨rfl, c, hc, rfl⟩ := hY
    refine ⟨hw _, _, hj _, _, hl _, c, rfl, S, rfl, ?_⟩
    have e : (cs z).getD i 0 = c := by
      rw [List.getD_eq_getElem?_getD]
      have : (cs z)[i]? = some c := by simpa using hc
      rw [this]; rfl
    rw [← e]
    exact k _ (Same.refl _)
  · rw [hl]
    congr 2
    apply List.ext_getElem?
    intro i
    rw [List.getElem?_map, List.getElem?_map, lz]
    by_cases hi : i < (cs z).length
    · have h1 : (cs z)[i]? = some (cs z)[i] := List.getElem?_eq_getElem hi
      rw [List.getElem?_range hi, h1, Option.map_some, Option.map_some, List.getD_eq_getElem?_getD, h1]
      rfl
    · rw [List.getElem?_eq_none (by rw [List.length_range]; omega), List.getElem?_eq_none (by omega)]
      rfl
/-! ### what the predicates promise -/
def spB (K : PySem.W.Frag) (f : V → Bool) : Sp := fun vs H Q _ => ∃ v, vs = [v] ∧ Ty K H v ∧ ∀ H', Ex H H' → Q (.bl (f v)) H'
def spV (K : PySem.W.Frag) : Sp := fun vs H Q _ => ∃ s v m, vs = [s, v, .bl m] ∧ Ty K H s ∧ Ty K H v ∧ ∀ H', Ex H H' → Q (.bl (isV s v m)) H'
theorem txt_part {K : PySem.W.Frag} {H : Hp} {Q : VK} {y : Str} {m : Bool} (hT : Ty K H (.str y)) (hQ : ∀ H', Ex H H' → Q (.bl (fitT m (.str y))) H') :
    ∃ z, V.str y = V.str z ∧ z.length ≤ sizeLine ∧ if (z.length : Int) ≤ 60 then ∃ c, Str.ofString "'" = { cps := #[c] } ∧ ∃ x, V.str y = V.str x ∧ Q (V.bl !decide (c ∈ x.cps.toList)) H else Q (V.bl false) H := by
  have hz : (cs y).length ≤ 1000000 := hT
  have lz : y.length = (cs y).length := by show y.cps.size = _; simp
  refine ⟨y, rfl, by rw [lz]; exact Nat.le_trans hz (by decide), ite2 (fun h1 => ⟨39, by decide +kernel, y, rfl, ?_⟩) (fun h1 => ?_)⟩
  · have e : (!decide (39 ∈ y.cps.toList)) = fitT m (.str y) := by
      show _ = (decide ((cs y).length ≤ 60) && !decide (39 ∈ cs y))
      rw [decide_eq_true (show (cs y).length ≤ 60 by omega), Bool.true_and]
    rw [e]
    exact hQ _ (Same.refl _)
  · have e : fitT m (.str y) = false := by
      show (decide ((cs y).length ≤ 60) && !decide (39 ∈ cs y)) = false
      rw [decide_eq_false (show ¬ (cs y).length ≤ 60 by omega), Bool.false_and]
    rw [← e]
    exact hQ _ (Same.refl _)
/-- short, and plain signs alone -/
def Gn (n : Nat) (z : Str) : Prop := (cs z).length ≤ n ∧ ∀ c ∈ cs z, c < 128
instance (n : Nat) (z : Str) : Decidable (Gn n z) := by unfold Gn; infer_instance
theorem Gn.le {n m : Nat} {z : Str} (h : Gn n z) (e : n ≤ m) : Gn m z := ⟨Nat.le_trans h.1 e, h.2⟩
theorem Gn.app {n m : Nat} {a b : Str} (ha : Gn n a) (hb : Gn m b) : Gn (n + m) (a ++ b) := by
  refine ⟨?_, fun c hc => ?_⟩
  · rw [cs_app_len]
    have := ha.1
    have := hb.1
    omega
  · rw [cs_app] at hc
    rcases List.mem_append.mp hc with h | h
    · exact ha.2 c h
    · exact hb.2 c h
theorem Gn.cut {n : Nat} {z : Str} (h : Gn n z) (lo hi : Option Int) : ∀ c ∈ cs (cutS z lo hi), c < 128 := fun c hc => by
  have hc' : c ∈ ((cs z).drop (HT.sIx z.length 0 lo)).take (HT.sIx z.length z.length hi - HT.sIx z.length 0 lo) := by simpa [cutS, cs] using hc
  exact h.2 c (List.mem_of_mem_drop (List.mem_of_mem_take hc'))
theorem gn_repr {n : Nat} {z : Str} (h : Gn n z) : (reprText z).length ≤ 10 * n + 2 := by
  have := StrLaws.reprText_len z fun c hc => Nat.lt_of_lt_of_le (h.2 c hc) (by decide)
  have e := cs_len z
  have := h.1
  omega
def strGn (b : Nat) : V → Bool
  | .str z => decide (Gn b z)
  | _ => false
theorem strs_gn {b : Nat} {xs : List V} (h : xs.all (strGn b) = true) {v : V} (hv : v ∈ xs) : ∃ z, v = .str z ∧ Gn b z := by
  have := List.all_eq_true.mp h v hv
  cases v with
  | str z => exact ⟨z, rfl, of_decide_eq_true this⟩
  | _ => cases this
theorem chooseG {K : PySem.W.Frag} {r p : Addr} {H : Hp} {xs : List V} {Q : VK} {E : XK} (b : Nat) (hR : Rng r H) (hp : H p = none) (h : xs.all (strGn b) = true) (hne : xs ≠ []) (hl : xs.length ≤ 100000) (k : ∀ (z : Str) H', Gn b z → Dr r H H' → Q (.str z) H') : spChoice K [.ref r, .ref p] (upd H p (.lst xs)) Q E :=
  choose hR hp hne hl fun v H' hv d => by
    obtain ⟨z, rfl, hz⟩ := strs_gn h hv
    exact k z H' hz d
theorem at_get {z : List Nat} {i : Nat} (h : i < z.length) : atI z (i : Int) = some (z.getD i 0) := atI_nat (by rw [List.getD_eq_getElem?_getD, List.getElem?_eq_getElem h]; rfl)
theorem at_last {z : List Nat} (h : 0 < z.length) : atI z (-1) = some (z.getD (z.length - 1) 0) := by
  have hz : z ≠ [] := List.ne_nil_of_length_pos h
  have e := atI_last z.dropLast (z.getLast hz)
  rw [List.dropLast_concat_getLast] at e
  rw [e, List.getLast_eq_getElem, List.getD_eq_getElem?_getD, List.getElem?_eq_getElem (by omega)]
  rfl
theorem hd_get {z : List Nat} (h : 0 < z.length) : z.head? = some (z.getD 0 0) := by
  cases z with
  | nil => cases h
  | cons c r => rfl
theorem lst_get {z : List Nat} (h : 0 < z.length) : z.getLast? = some (z.getD (z.length - 1) 0) := by
  rw [List.getLast?_eq_getElem?, List.getD_eq_getElem?_getD, List.getElem?_eq_getElem (by omega)]
  rfl
theorem qu1 : Str.ofString "'" = ⟨#[39]⟩ := by decide +kernel
theorem one_eq {c d : Nat} : (⟨#[c]⟩ : Str) = ⟨#[d]⟩ ↔ c = d := by
  constructor
  · intro h
    have := congrArg (fun z : Str => z.cps.toList) h
    simpa using this
  · rintro rfl; rfl
theorem one_q {c : Nat} : (⟨#[c]⟩ : Str) = Str.ofString "'" ↔ c = 39 := by rw [qu1, one_eq]
theorem cut_mid (y : Str) (a : Nat) : (cs (cutS y (some (a : Int)) (some ((a : Int) + 1)))).length ≤ 1 := by
  show (cs (cutS y (some (a : Int)) (some ((a + 1 : Nat) : Int)))).length ≤ 1
  unfold cutS
  rw [HT.sIx_nat, HT.sIx_nat]
  simp only [cs, List.length_take, List.length_drop]
  omega
/-- a text with its middle put anew -/
theorem glue {n a b : Nat} {y m : Str} (h : Gn n y) (hn : n ≤ 100000) (hab : a ≤ b) (hm : Gn 1 m) : Gn (n + 1) (cutS y none (some (a : Int)) ++ m ++ cutS y (some (b : Int)) none) ∧ (cutS y none (some (a : Int))).length + m.length ≤ sizeLine ∧ (cutS y none (some (a : Int)) ++ m).length + (cutS y (some (b : Int)) none).length ≤ sizeLine := by
  have c := cut_two y a b hab
  have hy := h.1
  have hm1 := hm.1
  refine ⟨⟨?_, fun d hd => ?_⟩, ?_, ?_⟩
  · rw [cs_app_len, cs_app_len]; omega
  · rw [cs_app, cs_app] at hd
    rcases List.mem_append.mp hd with hd | hd
    · rcases List.mem_append.mp hd with hd | hd
      · exact h.cut _ _ d hd
      · exact hm.2 d hd
    · exact h.cut _ _ d hd
  · rw [cs_len, cs_len]; exact Nat.le_trans (show _ ≤ 1000000 by omega) (by decide)
  · rw [cs_len, cs_len, cs_app_len]; exact Nat.le_trans (show _ ≤ 1000000 by omega) (by decide)
theorem upper_gn {n : Nat} {m : Str} (h : Gn n m) : Gn n (Txt.upper m) := by
  rw [PyProof.Rows.upper_ascii h.2]
  have e : cs (⟨m.cps.map PyProof.Rows.up1⟩ : Str) = (cs m).map PyProof.Rows.up1 := by
    show (m.cps.map _).toList = _
    rw [Array.toList_map]
  refine ⟨by rw [e, List.length_map]; exact h.1, fun c hc => ?_⟩
  rw [e] at hc
  obtain ⟨d, hd, rfl⟩ := List.mem_map.mp hc
  have all : ∀ d : Nat, d < 128 → PyProof.Rows.up1 d < 128 := by decide
  exact all d (h.2 d hd)
theorem one_gn {c : Nat} (h : c < 128) : Gn 1 ⟨#[c]⟩ := ⟨Nat.le_refl _, fun d hd => by
  have : d = c := by simpa [cs] using hd
  rw [this]
  exact h⟩
theorem repS_gn {n : Nat} {z : Str} (k : Nat) (h : Gn n z) : Gn (k * n) (repS z k) := ⟨by rw [repS_len]; exact Nat.mul_le_mul_left _ h.1, fun c hc => h.2 c (repS_mem hc)⟩
theorem repS_sz (z : Str) (n : Nat) : (repS z n).length = n * z.length := by rw [cs_len, repS_len, cs_len]
/-- texts of plain signs alone -/
def GnL (n : Nat) (xs : List V) : Prop := ∀ v ∈ xs, ∃ z, v = .str z ∧ Gn n z
theorem GnL.app {n : Nat} {xs ys : List V} (h1 : GnL n xs) (h2 : GnL n ys) : GnL n (xs ++ ys) := fun v hv => (List.mem_append.mp hv).elim (h1 v) (h2 v)
end Ab

set_option Elab.async false
set_option linter.all false
set_option maxRecDepth 100000
set_option maxHeartbeats 4000000
/-! AbY: comprehensions with a test, str of ints and bools, lists of different lengths. -/
namespace Ab
open PySem PySem.Spec PyProof.Rows L2
/-- items that pass a test, each shown by f -/
theorem lc_filt {J : It} {n : Nat} {G : Hp → Prop} {Y : Nat → Hp → V → Hp → Prop} (w : Walk J n G Y) {g : TG} {tt : TT} {te : TE} {vs : List Nat} {σ : L2.St} {H : Hp} {Q : VK} (hG : ∀ H', Ex H H' → G H') (hn : n ≤ 100000) (p : Nat → Bool) (f : Nat → V)
    (comb : ∀ i x H' H2, i < n → Ex H H' → Y i H' x H2 → ∀ (R : Bool → L2.St → Hp → Prop), (∀ σ2 H4, Ex H' H4 → (∀ H5, Ex H4 H5 → ∀ Qn : VK, (∀ H6, Ex H5 H6 → Qn (f i) H6) → te σ2 H5 Qn) → R (p i) σ2 H4) → g x (wipe σ vs) H2 fun σ2 H3 => wipe σ2 vs = wipe σ vs ∧ tt σ2 H3 fun b H4 => R b σ2 H4)
    (done : ∀ D H', H D = none → Ex H H' → H' D = some (.lst (((List.range n).filter p).map f)) → Q (.ref D) H') : LcF J g tt te vs σ H Q := by
  intro D hD
  refine lc_it w (Qd := fun H => Q (.ref D) H) (fun i H' => Ex H H' ∧ H' D = some (.lst (((List.range i).filter p).map f))) ⟨Ex.new hD, by rw [upd_same]; rfl⟩ (fun i H' _ q => hG H' q.1) ?_ ?_
  · rintro i x H' H2 hi ⟨e, hl⟩ hY
    refine comb i x H' H2 hi e hY _ fun σ2 H4 e4 el => ?_
    by_cases hp : p i = true
    · rw [if_pos hp]
      refine el H4 (Same.refl _) _ fun H6 e6 => ⟨_, e6 _ _ (e4 _ _ hl), ?_, Ex.keep (Same.trans (Same.trans e e4) e6) hD, ?_⟩
      · have : (((List.range i).filter p).map f).length ≤ i := by
          rw [List.length_map]
          refine Nat.le_trans (List.length_filter_le _ _) ?_
          rw [List.length_range]
          exact Nat.le_refl _
        exact Nat.lt_of_le_of_lt (show _ ≤ 100000 by omega) (by decide)
      · rw [upd_same, List.range_succ, List.filter_append, List.map_append]
        simp [hp]
    · rw [if_neg hp]
      refine ⟨Same.trans e e4, ?_⟩
      rw [e4 _ _ hl, List.range_succ, List.filter_append, List.map_append]
      simp [hp]
  · rintro H' ⟨e, hl⟩
    exact done D H' hD e hl
section
variable {X : Cx}
/-- str of an int or a bool -/
theorem call_strIB : CallR X (.type "str") (fun xs H Q => ∃ v, xs = [v] ∧ ((∃ i : Int, v = .int i ∧ i.natAbs.log2 < 1920) ∨ ∃ b, v = .bl b) ∧ Q (.str (fD v).shown) H) := by
  intro pins s σ H xs us Q I r h
  obtain ⟨v, rfl, h, q⟩ := h
  rcases h with ⟨i, rfl, hz⟩ | ⟨b, rfl⟩
  · obtain ⟨u, rfl, t, rfl⟩ := vals1 r
    exact PySem.P.str_of_int hz ⟨.str _, H, I.tok _, ⟨_, rfl⟩, q⟩
  · obtain ⟨u, rfl, ru⟩ := vals1 r
    cases ru
    cases b
    · exact PySem.P.str_of_bool (b := false) ⟨.str _, H, I.tok _, ⟨_, rfl⟩, q⟩
    · exact PySem.P.str_of_bool (b := true) ⟨.str _, H, I.tok _, ⟨_, rfl⟩, q⟩
/-- two lists: equal, or of different lengths -/
def rEqL (K : PySem.W.Frag) : R2 := fun x y H Q => (∃ a b xs ys, x = .ref a ∧ y = .ref b ∧ SqL K H a xs ∧ SqL K H b ys ∧ xs.length ≠ ys.length ∧ Q (.bl false) H) ∨ ∃ n, n ≤ 60 ∧ SimR K H n x y ∧ Q (.bl true) H
theorem op_eqL (hu : X.A.units + 64 < cLine) : OpR X (compareOp .Eq) (rEqL X.K) := by
  intro pins s σ H x y v u Q I rx ry h
  rcases h with ⟨a, b, xs, ys, rfl, rfl, ha, hb, hl, q⟩ | h
  · cases (show v = Value.ref a from rx)
    cases (show u = Value.ref b from ry)
    obtain ⟨us, r1, p1, _⟩ := I.list ha
    obtain ⟨ws, r2, p2, _⟩ := I.list hb
    refine SeqAt.RcAt.lists_lengths p1.isList p2.isList ?_ (by omega) _ _ _ _ ⟨.bl false, H, I, rfl, q⟩
    rw [List.size_toArray, List.size_toArray, ← r1.length, ← r2.length]
    simpa using hl
  · exact op_simE hu pins s σ H x y v u Q I rx ry h
end
end Ab

set_option Elab.async false
set_option linter.all false
set_option maxRecDepth 100000
set_option maxHeartbeats 4000000
/-! AbO: special methods of own classes: len(x), str(x), repr(x), v in x, x == v, x != v. -/
namespace Ab
open PySem PySem.Spec PyProof.Rows L2
/-- the class C has a def for the name -/
structure Spc (g : Bool) (P : Program) (w : World) (K : PySem.W.Frag) (mg : Str → Option Value) (base : Heap) (k : Nat) (C : Addr) (name : Str) (n : Nat) (sp : Sp) : Prop where
  ex : ∃ (f : Addr) (fd : FuncData) (ps : List Str), Fq g P w K mg base CX0 k f fd ps sp ∧ Bw K fd ps n [] gPos ∧ PySem.W.findIn K (.ref C) name = some (some (.ref f)) ∧ PySem.W.isFn K (.ref f) = true
section
variable {X : Cx} {g : Bool} {k n : Nat} {C f : Addr} {fd : FuncData} {ps : List Str} {sp : Sp} {pins : List (Addr × Obj)} {σ : L2.St} {H : Hp} {s : Shared} {A : Around} {E : Value → Shared → Prop}
theorem run_spc {us : List Value} {vs : List V} {Q : VK} (F : Fq g X.prog X.w X.K X.mg X.base CX0 k f fd ps sp) (hb : Bw X.K fd ps n [] gPos) (hfr : A.frames = X.A.frames) (hg : Gd g A) (hr : Room k A) (I : Inv X pins σ H s) (rv : Vals vs us) (hl : us.length = n)
    (h : sp vs H Q E0) : wpAny (model X.prog X.w) A (call (.ref f) us) (EP X pins σ Q) E s := by
  have e0 : Env0 X.prog X.w X.K X.mg X.base A X.stack s H := ⟨hfr.trans I.ok.frames, I.env0.mod, I.env0.bs, I.env0.bsz, I.env0.funs, I.env0.frf, I.env0.hok, I.env0.bare⟩
  obtain ⟨zs, hB, hV⟩ := hb s us [] I.kIn hl rfl
  refine wpAny_call (codeAny_mono (F.go A X.stack s H ⟨us, []⟩ zs vs Q E0 hg hr e0 hB (hV vs [] rv .nil) h) fun r s' hq => ?_)
  cases r with
  | error _ => exact hq.elim
  | ok fl =>
    cases fl with
    | ret u => exact I.after hq
    | _ => exact hq.elim
end
/-! ### the rules -/
def rLenO (C : Addr) (sp : Sp) : List V → Hp → VK → Prop := fun xs H Q => ∃ (a dx : Addr) (fs : List (Str × V)), xs = [.ref a] ∧ H a = some (.ins C dx fs) ∧ sp [.ref a] H (fun v H' => ∃ n : Int, v = .int n ∧ 0 ≤ n ∧ n < 2 ^ 63 ∧ Q (.int n) H') E0
def rStrO (C : Addr) (sp : Sp) : List V → Hp → VK → Prop := fun xs H Q => ∃ (a dx : Addr) (fs : List (Str × V)), xs = [.ref a] ∧ H a = some (.ins C dx fs) ∧ sp [.ref a] H (fun v H' => ∃ z : Str, v = .str z ∧ Q (.str z) H') E0
def rInO (C : Addr) (sp : Sp) (neg : Bool) : R2 := fun x y H Q => ∃ (a dx : Addr) (fs : List (Str × V)), y = .ref a ∧ H a = some (.ins C dx fs) ∧ sp [.ref a, x] H (fun v H' => ∃ b : Bool, v = .bl b ∧ Q (.bl (if neg then !b else b)) H') E0
/-- the right side's class is no subclass of C's, or it is C -/
def NotSub (K : PySem.W.Frag) (C : Addr) (H : Hp) (y : V) : Prop := ∃ t, TyX K H y t ∧ PySem.W.notFirst K C t = true
def rEqO (K : PySem.W.Frag) (C : Addr) (sp : Sp) (neg : Bool) : R2 := fun x y H Q => ∃ (a dx : Addr) (fs : List (Str × V)), x = .ref a ∧ H a = some (.ins C dx fs) ∧ NotSub K C H y ∧ sp [.ref a, y] H (fun v H' => ∃ b : Bool, v = .bl b ∧ Q (.bl (if neg then !b else b)) H') E0
section
variable {X : Cx} {g : Bool} {k : Nat} {C : Addr} {sp : Sp}
theorem call_lenO (S : Spc g X.prog X.w X.K X.mg X.base k C "__len__" 1 sp) (hg : Gd g X.A) (hr : Room (k + 1) X.A) : CallR X (.builtin "len") (rLenO C sp) := by
  intro pins s σ H xs us Q I r h
  obtain ⟨a, dx, fs, rfl, ha, h⟩ := h
  obtain ⟨u, rfl, ru⟩ := vals1 r
  cases ru
  obtain ⟨f, fd, ps, F, hb, hs, hf⟩ := S.ex
  obtain ⟨mA, J, _⟩ := ins_get I.hok ha
  obtain ⟨od, J, _⟩ := J.look
  obtain ⟨m, hF⟩ := I.fr
  refine PySem.W.len_K hF I.ok.mod.kin J hs hf (wpAny_mono (run_spc F hb rfl hg hr.in1 I (.cons (show L2.RelV (.ref a) (.ref a) from rfl) .nil) rfl h) (fun v s' hv => ?_) fun _ _ z => z)
  obtain ⟨y, H', I', ry, n, rfl, n0, n1, q⟩ := hv
  obtain ⟨t, rfl⟩ := ry
  exact ⟨⟨n0, n1⟩, .int n, H', I'.tok _, ⟨_, rfl⟩, q⟩
theorem call_reprO (S : Spc g X.prog X.w X.K X.mg X.base k C "__repr__" 1 sp) (hg : Gd g X.A) (hr : Room (k + 1) X.A) : CallR X (.builtin "repr") (rStrO C sp) := by
  intro pins s σ H xs us Q I r h
  obtain ⟨a, dx, fs, rfl, ha, h⟩ := h
  obtain ⟨u, rfl, ru⟩ := vals1 r
  cases ru
  obtain ⟨f, fd, ps, F, hb, hs, hf⟩ := S.ex
  obtain ⟨mA, J, _⟩ := ins_get I.hok ha
  obtain ⟨od, J, _⟩ := J.look
  obtain ⟨m, hF⟩ := I.fr
  refine PySem.W.repr_K hr.in1.units0 hF I.ok.mod.kin J hs hf (wpAny_mono (run_spc F hb rfl hg hr.in1 I (.cons (show L2.RelV (.ref a) (.ref a) from rfl) .nil) rfl h) (fun v s' hv => ?_) fun _ _ z => z)
  obtain ⟨y, H', I', ry, z, rfl, q⟩ := hv
  obtain ⟨t, rfl⟩ := ry
  exact ⟨.str z, H', I', ⟨_, rfl⟩, q⟩
theorem op_inO (neg : Bool) (S : Spc g X.prog X.w X.K X.mg X.base k C "__contains__" 2 sp) (hg : Gd g X.A) (hr : Room k X.A) : OpR X (compareOp (if neg then .NotIn else .In)) (rInO C sp neg) := by
  intro pins s σ H x y v u Q I rx ry h
  obtain ⟨a, dx, fs, rfl, ha, h⟩ := h
  cases ry
  obtain ⟨f, fd, ps, F, hb, hs, hf⟩ := S.ex
  obtain ⟨mA, J, _⟩ := ins_get I.hok ha
  obtain ⟨od, J, _⟩ := J.look
  obtain ⟨m, hF⟩ := I.fr
  have run := run_spc (E := X.xe) F hb rfl hg hr I (.cons (show RelV (.ref a) (.ref a) from rfl) (.cons rx .nil)) rfl h
  cases neg with
  | false =>
    refine PySem.W.in_K hF I.ok.mod.kin J hs hf (wpAny_mono run (fun w s' hv => ?_) fun _ _ z => z)
    obtain ⟨z, H', I', rz, b, rfl, q⟩ := hv
    cases rz
    exact wpAny_truthy_bool ⟨.bl b, H', I', rfl, q⟩
  | true =>
    refine PySem.W.notIn_K hF I.ok.mod.kin J hs hf (wpAny_mono run (fun w s' hv => ?_) fun _ _ z => z)
    obtain ⟨z, H', I', rz, b, rfl, q⟩ := hv
    cases rz
    exact wpAny_truthy_bool ⟨.bl (!b), H', I', rfl, q⟩
theorem op_eqO (S : Spc g X.prog X.w X.K X.mg X.base k C "__eq__" 2 sp) (hg : Gd g X.A) (hr : Room k X.A) : OpR X (compareOp .Eq) (rEqO X.K C sp false) := by
  intro pins s σ H x y v u Q I rx ry h
  obtain ⟨a, dx, fs, rfl, ha, ⟨t, ht, hn⟩, h⟩ := h
  cases rx
  obtain ⟨f, fd, ps, F, hb, hs, hf⟩ := S.ex
  obtain ⟨mA, J, _⟩ := ins_get I.hok ha
  obtain ⟨od, J, _⟩ := J.look
  obtain ⟨m, hF⟩ := I.fr
  obtain ⟨Pk, kit, pk, _⟩ := kit_of I ry ht
  refine PySem.W.cmp_K (op := .Eq) (tb := t) hr.units0 hF I.ok.mod.kin J (kit.ty _ _ I.kIn pk) hn hs hf (wpAny_mono (run_spc F hb rfl hg hr I (.cons (show L2.RelV (.ref a) (.ref a) from rfl) (.cons ry .nil)) rfl h) (fun w s' hv => ?_) fun _ _ z => z)
  obtain ⟨z, H', I', rz, b, rfl, q⟩ := hv
  cases rz
  exact ⟨.bl b, H', I', rfl, q⟩
end
end Ab

set_option Elab.async false
set_option linter.all false
set_option maxRecDepth 100000
set_option maxHeartbeats 4000000
/-! AbN: x != v of own classes with a def __eq__ alone; a built-in value == or != an own one. -/
namespace Ab
open PySem PySem.Spec PyProof.Rows L2
section
variable {M : Model} {prog : Program} {w : World} {A : Around} {E : Value → Shared → Prop} {s : Shared} {K : PySem.W.Frag} {x C f : Addr} {ox : Obj} {od : Option Obj} {b : Value}
theorem ifBound_objNe {args : List Value} {Q : Option Value → Shared → Prop} (X : K.In s.heap) (I : PySem.W.InstAt s.heap x ox C od) (hs : PySem.W.findIn K (.ref C) "__ne__" = some (some (.builtin "object.__ne__")))
    (h : wpAny M A (call (.builtin "object.__ne__") (.ref x :: args)) (fun v => Q (some v)) E s) : wpAny M A (callSpecialIfBound? (.ref x) "__ne__" args) Q E s := by
  simp only [callSpecialIfBound?, bindSpecialIfBound?]
  refine wpAny_holding (wpAny_bind (wpAny_bind (wpAny_bind (I.type.here ((PySem.W.looks_findIn X hs).here ?_)))))
  refine wpAny_bind (wpAny_askSetting (wpAny_ite ?_))
  have fin : wpAny M A (call (.builtin "object.__ne__") ([.ref x] ++ args) >>= fun v => pure (some v)) Q E s := wpAny_bind (wpAny_mono h (fun v s' h' => wpAny_pure h') fun _ _ h' => h')
  split
  · exact wpAny_bind (wpAny_of_eq (F.cmp_object.ne.bind _) (wpAny_pure (by exact fin)))
  · exact wpAny_tryCatch (wpAny_bind (wpAny_of_eq (F.cmp_object.ne.bind _) (wpAny_pure (by exact fin))))
theorem ne_entry {Q : Fin → Shared → Prop} (hu : A.units < cLine) (X : K.In s.heap) (I : PySem.W.InstAt s.heap x ox C od) (hs : PySem.W.findIn K (.ref C) "__eq__" = some (some (.ref f))) (hf : PySem.W.isFn K (.ref f) = true)
    (h : wpAny (model prog w) A (call (.ref f) [.ref x, b]) (fun v s' => ∃ c, v = .bool c ∧ Q (.done (.ret (.bool (!c)))) s') E s) :
    wpAny (model prog w) A (Builtin.«object.__ne__» ⟨[.ref x, b], []⟩) Q E s := by
  unfold Builtin.«object.__ne__»
  repeat (first
    | with_reducible refine wpAny_cRoomFor hu ?_
    | (refine wpAny_bind (m := callSpecialIfBound? (.ref x) (Str.ofString "__eq__") [b])
        (PySem.W.ifBound_K X I hs hf (wpAny_mono h (fun r s' hr => by
          obtain ⟨c, rfl, hq⟩ := hr
          repeat (first | exact hq | exact wpAny_pure hq | exact wpAny_truthy_bool hq | (refine wpAny_bind (m := truthy (.bool _)) (wpAny_truthy_bool ?_)) | wp_step)) fun _ _ e => e)))
    | wp_step)
theorem ne_try {Q : Option Value → Shared → Prop} (hu : A.units + 1 < cLine) (X : K.In s.heap) (I : PySem.W.InstAt s.heap x ox C od) (hn : PySem.W.findIn K (.ref C) "__ne__" = some (some (.builtin "object.__ne__")))
    (hm : PySem.W.mroIn K C (.type "object") = some true) (hs : PySem.W.findIn K (.ref C) "__eq__" = some (some (.ref f))) (hf : PySem.W.isFn K (.ref f) = true)
    (h : wpAny (model prog w) A.in1 (call (.ref f) [.ref x, b]) (fun v s' => ∃ c, v = .bool c ∧ Q (some (.bool (!c))) s') E s) : wpAny (model prog w) A (tryCompare (.ref x) "__ne__" b) Q E s := by
  simp only [tryCompare]
  refine wpAny_bind (ifBound_objNe X I hn (wpAny_call (codeAny_call_builtin F.cmp_object.ne.plain F.cmpEntry_ne
    (PySem.W.check_slot F.cmpKind_ne F.cmpSplit_ne (I.type.andThen (PySem.W.looks_mroIn X hm)) (F.cmpArgs_ne _ _) (ne_entry (A := A.in1) hu X I hs hf (wpAny_mono h (fun v s' hv => ?_) fun _ _ e => e))))))
  obtain ⟨c, rfl, hq⟩ := hv
  first | exact ⟨c, rfl, wpAny_pure hq⟩ | exact ⟨c, rfl, wpAny_pure (wpAny_pure hq)⟩ | exact ⟨c, rfl, hq⟩
theorem eq_try {Q : Option Value → Shared → Prop} (X : K.In s.heap) (I : PySem.W.InstAt s.heap x ox C od) (hs : PySem.W.findIn K (.ref C) "__eq__" = some (some (.ref f))) (hf : PySem.W.isFn K (.ref f) = true)
    (h : wpAny (model prog w) A (call (.ref f) [.ref x, b]) (fun v s' => ∃ c, v = .bool c ∧ Q (some (.bool c)) s') E s) : wpAny (model prog w) A (tryCompare (.ref x) "__eq__" b) Q E s := by
  unfold tryCompare
  refine wpAny_bind (PySem.W.ifBound_K X I hs hf (wpAny_mono h (fun v s' hv => ?_) fun _ _ e => e))
  obtain ⟨c, rfl, hq⟩ := hv
  exact wpAny_pure hq
theorem rc_own {op : CmpOp} {tb : Value} {Q : Value → Shared → Prop} (hu : A.units < cLine) (X : K.In s.heap) (I : PySem.W.InstAt s.heap x ox C od) (hb : PySem.W.Looks M s.heap (typeOf b) tb) (hn : PySem.W.notFirst K C tb = true)
    (one : wpAny M A (tryCompare (.ref x) (cmpInfo op).2.1 b) (fun r s' => ∃ v, r = some v ∧ Q v s') E s) : wpAny M A (richCompare op (.ref x) b) Q E s := by
  unfold richCompare
  simp only [oneThing_ref]
  refine wpAny_holding (wpAny_bind (wpAny_cRoomFor hu ?_))
  refine wpAny_bind (I.type.here (wpAny_bind (hb.here ?_)))
  split
  · rename_i q
    have e : PySem.W.subIn K tb (.ref C) = some false := by
      rcases Bool.or_eq_true_iff.mp hn with e | e
      · rw [beq_iff_eq.mp e] at q; simp at q
      · exact beq_iff_eq.mp e
    refine wpAny_bind ((PySem.W.looks_subIn X e).here ?_)
    simp only [Bool.false_eq_true, if_false]
    refine wpAny_bind (wpAny_mono one (fun r s' z => ?_) fun _ _ e => e)
    obtain ⟨v, rfl, hq⟩ := z
    exact wpAny_pure hq
  · refine wpAny_bind (wpAny_pure ?_)
    simp only [Bool.false_eq_true, if_false]
    refine wpAny_bind (wpAny_mono one (fun r s' z => ?_) fun _ _ e => e)
    obtain ⟨v, rfl, hq⟩ := z
    exact wpAny_pure hq
theorem rc_refl {op : CmpOp} {a : Value} {T : String} {Q : Value → Shared → Prop} (hu : A.units < cLine) (X : K.In s.heap) (I : PySem.W.InstAt s.heap x ox C od) (ha : s.TypeIs a T) (hT : PySem.W.mroIn K C (.type T) = some false)
    (no : ∀ Q' : Option Value → Shared → Prop, Q' none s → wpAny M A (tryCompare a (cmpInfo op).2.1 (.ref x)) Q' E s)
    (one : wpAny M A (tryCompare (.ref x) (cmpInfo op).2.2 a) (fun r s' => ∃ v, r = some v ∧ Q v s') E s) : wpAny M A (richCompare op a (.ref x)) Q E s := by
  unfold richCompare
  simp only [ha.oneThing_none]
  refine wpAny_holding (wpAny_bind (wpAny_cRoomFor hu ?_))
  refine wpAny_bind (wpAny_typeOf ha (wpAny_bind (I.type.here ?_)))
  split
  · refine wpAny_bind ((PySem.W.looks_mroIn X hT).here ?_)
    simp only [Bool.false_eq_true, if_false, Bool.not_false, if_true]
    refine wpAny_bind (m := tryCompare a _ (.ref x)) (no _ ?_)
    refine wpAny_bind (m := tryCompare (.ref x) _ a) (wpAny_mono one (fun r s' z => ?_) fun _ _ e => e)
    obtain ⟨v, rfl, hq⟩ := z
    exact wpAny_pure hq
  · rename_i q
    exact absurd (by simp) q
end
/-! ### what declines -/
section
open AutoSeq1 (wpAny_loadPart')
variable {prog : Program} {w : World} {A : Around} {E : Value → Shared → Prop} {s : Shared} {K : PySem.W.Frag} {x C : Addr} {dx : Addr} {od : Option Obj}
theorem non_eq (x : Addr) : Gives (Builtin.«NoneType.__eq__» ⟨[.none, .ref x], []⟩) (.val (Value.notImplemented)) :=
  .of_wp fun M A E s Q h => by obtain ⟨hp, g, d, tk, os⟩ := s; wp_walk; exact ⟨_, rfl, h⟩
theorem int_eq (a : Int) (t : Tok) (x C dx : Addr) : Meets (Builtin.«int.__eq__» ⟨[.int a t, .ref x], []⟩) (fun _ R s => s.heap.get? x = some (PySem.W.instObj C dx) ∧ R (.ok (.ret .notImplemented)) s) :=
  .of_wp fun prog w A R s h => by obtain ⟨hp, g, d, tk, os⟩ := s; obtain ⟨hl, h⟩ := h; wp_walk using wpAny_loadPart' hl, wpAny_load hl; exact ⟨_, rfl, h⟩
theorem int_ne (a : Int) (t : Tok) (x C dx : Addr) : Meets (Builtin.«int.__ne__» ⟨[.int a t, .ref x], []⟩) (fun _ R s => s.heap.get? x = some (PySem.W.instObj C dx) ∧ R (.ok (.ret .notImplemented)) s) :=
  .of_wp fun prog w A R s h => by obtain ⟨hp, g, d, tk, os⟩ := s; obtain ⟨hl, h⟩ := h; wp_walk using wpAny_loadPart' hl, wpAny_load hl; exact ⟨_, rfl, h⟩
theorem bl_eq (a : Bool) (x C dx : Addr) : Meets (Builtin.«int.__eq__» ⟨[.bool a, .ref x], []⟩) (fun _ R s => s.heap.get? x = some (PySem.W.instObj C dx) ∧ R (.ok (.ret .notImplemented)) s) :=
  .of_wp fun prog w A R s h => by obtain ⟨hp, g, d, tk, os⟩ := s; obtain ⟨hl, h⟩ := h; wp_walk using wpAny_loadPart' hl, wpAny_load hl; exact ⟨_, rfl, h⟩
theorem bl_ne (a : Bool) (x C dx : Addr) : Meets (Builtin.«int.__ne__» ⟨[.bool a, .ref x], []⟩) (fun _ R s => s.heap.get? x = some (PySem.W.instObj C dx) ∧ R (.ok (.ret .notImplemented)) s) :=
  .of_wp fun prog w A R s h => by obtain ⟨hp, g, d, tk, os⟩ := s; obtain ⟨hl, h⟩ := h; wp_walk using wpAny_loadPart' hl, wpAny_load hl; exact ⟨_, rfl, h⟩
theorem str_eq (a : Str) (t : Tok) (x C dx : Addr) : Meets (Builtin.«str.__eq__» ⟨[.str a t, .ref x], []⟩) (fun _ R s => s.heap.get? x = some (PySem.W.instObj C dx) ∧ R (.ok (.ret .notImplemented)) s) :=
  .of_wp fun prog w A R s h => by obtain ⟨hp, g, d, tk, os⟩ := s; obtain ⟨hl, h⟩ := h; wp_walk using wpAny_loadPart' hl, wpAny_load hl; exact ⟨_, rfl, h⟩
theorem str_ne (a : Str) (t : Tok) (x C dx : Addr) : Meets (Builtin.«str.__ne__» ⟨[.str a t, .ref x], []⟩) (fun _ R s => s.heap.get? x = some (PySem.W.instObj C dx) ∧ R (.ok (.ret .notImplemented)) s) :=
  .of_wp fun prog w A R s h => by obtain ⟨hp, g, d, tk, os⟩ := s; obtain ⟨hl, h⟩ := h; wp_walk using wpAny_loadPart' hl, wpAny_load hl; exact ⟨_, rfl, h⟩
theorem no_inst {M : Model} {E : Value → Shared → Prop} {A : Around} {T : String} {Q : Bool → Shared → Prop} (n : PySem.W.Looks M s.heap (isInstance (.ref x) (.type T)) false) (h : Q false s) : wpAny M A (isInstance (.ref x) (.type T)) Q E s := n.here h
theorem list_eq (l x : Addr) : Meets (Builtin.«list.__eq__» ⟨[.ref l, .ref x], []⟩) (fun _ R s => (∀ M, PySem.W.Looks M s.heap (isInstance (.ref x) (.type "list")) false) ∧ R (.ok (.ret .notImplemented)) s) :=
  .of_wp fun prog w A R s h => by obtain ⟨hp, g, d, tk, os⟩ := s; obtain ⟨hl, h⟩ := h; wp_walk using (hl _).here; exact ⟨_, rfl, h⟩
theorem list_ne (l x : Addr) : Meets (Builtin.«list.__ne__» ⟨[.ref l, .ref x], []⟩) (fun _ R s => (∀ M, PySem.W.Looks M s.heap (isInstance (.ref x) (.type "list")) false) ∧ R (.ok (.ret .notImplemented)) s) :=
  .of_wp fun prog w A R s h => by obtain ⟨hp, g, d, tk, os⟩ := s; obtain ⟨hl, h⟩ := h; wp_walk using (hl _).here; exact ⟨_, rfl, h⟩
theorem tup_eq (l x : Addr) : Meets (Builtin.«tuple.__eq__» ⟨[.ref l, .ref x], []⟩) (fun _ R s => (∀ M, PySem.W.Looks M s.heap (isInstance (.ref x) (.type "tuple")) false) ∧ R (.ok (.ret .notImplemented)) s) :=
  .of_wp fun prog w A R s h => by obtain ⟨hp, g, d, tk, os⟩ := s; obtain ⟨hl, h⟩ := h; wp_walk using (hl _).here; exact ⟨_, rfl, h⟩
theorem tup_ne (l x : Addr) : Meets (Builtin.«tuple.__ne__» ⟨[.ref l, .ref x], []⟩) (fun _ R s => (∀ M, PySem.W.Looks M s.heap (isInstance (.ref x) (.type "tuple")) false) ∧ R (.ok (.ret .notImplemented)) s) :=
  .of_wp fun prog w A R s h => by obtain ⟨hp, g, d, tk, os⟩ := s; obtain ⟨hl, h⟩ := h; wp_walk using (hl _).here; exact ⟨_, rfl, h⟩
theorem dic_eq (l x : Addr) : Meets (Builtin.«dict.__eq__» ⟨[.ref l, .ref x], []⟩) (fun _ R s => (∀ M, PySem.W.Looks M s.heap (isInstance (.ref x) (.type "dict")) false) ∧ R (.ok (.ret .notImplemented)) s) :=
  .of_wp fun prog w A R s h => by obtain ⟨hp, g, d, tk, os⟩ := s; obtain ⟨hl, h⟩ := h; wp_walk using (hl _).here; exact ⟨_, rfl, h⟩
theorem dic_ne (l x : Addr) : Meets (Builtin.«dict.__ne__» ⟨[.ref l, .ref x], []⟩) (fun _ R s => (∀ M, PySem.W.Looks M s.heap (isInstance (.ref x) (.type "dict")) false) ∧ R (.ok (.ret .notImplemented)) s) :=
  .of_wp fun prog w A R s h => by obtain ⟨hp, g, d, tk, os⟩ := s; obtain ⟨hl, h⟩ := h; wp_walk using (hl _).here; exact ⟨_, rfl, h⟩
end
/-- a value of a built-in class -/
inductive Bv (K : PySem.W.Frag) (H : Hp) : V → String → Prop
  | non : Bv K H .non "NoneType"
  | bl (b : Bool) : Bv K H (.bl b) "bool"
  | int (i : Int) : Bv K H (.int i) "int"
  | str (z : Str) : Bv K H (.str z) "str"
  | lst {a : Addr} {xs : List V} (h : SqL K H a xs) : Bv K H (.ref a) "list"
  | tup {a : Addr} {xs : List V} (h : SqT K H a xs) : Bv K H (.ref a) "tuple"
  | dic {a : Addr} {kvs : List (Key × V)} (h : H a = some (.dK kvs)) : Bv K H (.ref a) "dict"
def noB (K : PySem.W.Frag) (C : Addr) : Bool := ["NoneType", "bool", "int", "str", "list", "tuple", "dict"].all fun T => PySem.W.mroIn K C (.type T) == some false
theorem noB_at {K : PySem.W.Frag} {C : Addr} (h : noB K C = true) {H : Hp} {v : V} {T : String} (b : Bv K H v T) : PySem.W.mroIn K C (.type T) = some false := by
  have h1 := fun T hT => beq_iff_eq.mp (List.all_eq_true.mp h T hT)
  cases b <;> exact h1 _ (by simp)
section
variable {X : Cx} {pins : List (Addr × Obj)} {σ : L2.St} {H : Hp} {s : Shared} {A : Around} {E : Value → Shared → Prop} {x C dx : Addr}
theorem bv_type (I : Inv X pins σ H s) {v : V} {u : Value} {T : String} (b : Bv X.K H v T) (r : RelV v u) : s.TypeIs u T := by
  cases b with
  | non => cases (show u = Value.none from r); rfl
  | bl b => cases (show u = Value.bool b from r); rfl
  | int i => obtain ⟨t, rfl⟩ := (show ∃ t, u = Value.int i t from r); rfl
  | str z => obtain ⟨t, rfl⟩ := (show ∃ t, u = Value.str z t from r); rfl
  | @lst a xs h =>
    cases (show u = Value.ref a from r)
    obtain ⟨us, r1, p1, _⟩ := I.list h
    obtain ⟨o, h1, h2, _⟩ := p1.isList
    exact ⟨o, h1, h2⟩
  | @tup a xs h =>
    cases (show u = Value.ref a from r)
    obtain ⟨us, r1, p1, _⟩ := I.tuple h
    obtain ⟨o, h1, h2, _⟩ := p1
    exact ⟨o, h1, h2⟩
  | @dic a kvs h =>
    cases (show u = Value.ref a from r)
    obtain ⟨_, _, vs, _, p⟩ := (show ObjOk X.prog X.w H s.heap a (.dK kvs) from I.hok a _ h)
    obtain ⟨o, es, ep, h1, h2, _⟩ := p
    exact ⟨o, h1, h2.1⟩
theorem bv_dec (I : Inv X pins σ H s) {v : V} {u : Value} {T : String} (b : Bv X.K H v T) (r : RelV v u) (ho : s.heap.get? x = some (PySem.W.instObj C dx)) (hn : ∀ M, PySem.W.Looks M s.heap (isInstance (.ref x) (.type T)) false)
    (op : CmpOp) (hop : op = .Eq ∨ op = .NotEq) {Q : Option Value → Shared → Prop} (q : Q none s) : wpAny (model X.prog X.w) A (tryCompare u (cmpInfo op).2.1 (.ref x)) Q E s := by
  have ty := bv_type I b r
  rcases hop with rfl | rfl
  · cases b with
    | non => cases (show u = Value.none from r); exact wpAny_tryCompare_declines ty F.slot_NoneType_eq (call_gives F.slot_NoneType_eq ty F.entry_NoneType_eq (F.args_NoneType_eq_2 _ _) (non_eq x) ⟨rfl, q⟩)
    | bl b => cases (show u = Value.bool b from r); exact wpAny_tryCompare_declines ty F.slot_bool_eq (call_meets F.slot_bool_eq ty F.entry_int_eq (F.args_int_eq_2 _ _) (bl_eq b x C dx) ⟨ho, rfl, q⟩)
    | int i => obtain ⟨t, rfl⟩ := (show ∃ t, u = Value.int i t from r); exact wpAny_tryCompare_declines ty F.slot_int_eq (call_meets F.slot_int_eq ty F.entry_int_eq (F.args_int_eq_2 _ _) (int_eq i t x C dx) ⟨ho, rfl, q⟩)
    | str z => obtain ⟨t, rfl⟩ := (show ∃ t, u = Value.str z t from r); exact wpAny_tryCompare_declines ty F.slot_str_eq (call_meets F.slot_str_eq ty F.entry_str_eq (F.args_str_eq_2 _ _) (str_eq z t x C dx) ⟨ho, rfl, q⟩)
    | @lst a xs h => cases (show u = Value.ref a from r); exact wpAny_tryCompare_declines ty F.slot_list_eq (call_meets F.slot_list_eq ty F.entry_list_eq (F.args_list_eq_2 _ _) (list_eq a x) ⟨hn, rfl, q⟩)
    | @tup a xs h => cases (show u = Value.ref a from r); exact wpAny_tryCompare_declines ty F.slot_tuple_eq (call_meets F.slot_tuple_eq ty F.entry_tuple_eq (F.args_tuple_eq_2 _ _) (tup_eq a x) ⟨hn, rfl, q⟩)
    | @dic a kvs h => cases (show u = Value.ref a from r); exact wpAny_tryCompare_declines ty F.slot_dict_eq (call_meets F.slot_dict_eq ty F.entry_dict_eq (F.args_dict_eq_2 _ _) (dic_eq a x) ⟨hn, rfl, q⟩)
  · cases b with
    | non => cases (show u = Value.none from r); exact wpAny_tryCompare_declines ty F.slot_NoneType_ne (call_gives F.slot_NoneType_ne ty F.entry_NoneType_ne (F.args_NoneType_ne_2 _ _) (SeqAt.NoneType___ne___none_ref_0 x) ⟨rfl, q⟩)
    | bl b => cases (show u = Value.bool b from r); exact wpAny_tryCompare_declines ty F.slot_bool_ne (call_meets F.slot_bool_ne ty F.entry_int_ne (F.args_int_ne_2 _ _) (bl_ne b x C dx) ⟨ho, rfl, q⟩)
    | int i => obtain ⟨t, rfl⟩ := (show ∃ t, u = Value.int i t from r); exact wpAny_tryCompare_declines ty F.slot_int_ne (call_meets F.slot_int_ne ty F.entry_int_ne (F.args_int_ne_2 _ _) (int_ne i t x C dx) ⟨ho, rfl, q⟩)
    | str z => obtain ⟨t, rfl⟩ := (show ∃ t, u = Value.str z t from r); exact wpAny_tryCompare_declines ty F.slot_str_ne (call_meets F.slot_str_ne ty F.entry_str_ne (F.args_str_ne_2 _ _) (str_ne z t x C dx) ⟨ho, rfl, q⟩)
    | @lst a xs h => cases (show u = Value.ref a from r); exact wpAny_tryCompare_declines ty F.slot_list_ne (call_meets F.slot_list_ne ty F.entry_list_ne (F.args_list_ne_2 _ _) (list_ne a x) ⟨hn, rfl, q⟩)
    | @tup a xs h => cases (show u = Value.ref a from r); exact wpAny_tryCompare_declines ty F.slot_tuple_ne (call_meets F.slot_tuple_ne ty F.entry_tuple_ne (F.args_tuple_ne_2 _ _) (tup_ne a x) ⟨hn, rfl, q⟩)
    | @dic a kvs h => cases (show u = Value.ref a from r); exact wpAny_tryCompare_declines ty F.slot_dict_ne (call_meets F.slot_dict_ne ty F.entry_dict_ne (F.args_dict_ne_2 _ _) (dic_ne a x) ⟨hn, rfl, q⟩)
end
/-- the class C has a def __eq__ and no __ne__ of its own, and is no built-in's child -/
def eqCls (K : PySem.W.Frag) (C : Addr) : Bool := noB K C && PySem.W.mroIn K C (.type "object") == some true && PySem.W.findIn K (.ref C) "__ne__" == some (some (.builtin "object.__ne__"))
def rEqR (K : PySem.W.Frag) (C : Addr) (sp : Sp) (neg : Bool) : R2 := fun x y H Q => ∃ (a dx : Addr) (fs : List (Str × V)) (T : String), y = .ref a ∧ H a = some (.ins C dx fs) ∧ Bv K H x T ∧ sp [.ref a, x] H (fun v H' => ∃ b : Bool, v = .bl b ∧ Q (.bl (if neg then !b else b)) H') E0
section
variable {X : Cx} {g : Bool} {k : Nat} {C : Addr} {sp : Sp}
theorem op_neO (ec : eqCls X.K C = true) (S : Spc g X.prog X.w X.K X.mg X.base k C "__eq__" 2 sp) (hg : Gd g X.A) (hr : Room (k + 1) X.A) : OpR X (compareOp .NotEq) (rEqO X.K C sp true) := by
  intro pins s σ H x y v u Q I rx ry h
  obtain ⟨a, dx, fs, rfl, ha, ⟨t, ht, hn⟩, h⟩ := h
  cases rx
  obtain ⟨ec, e3⟩ := Bool.and_eq_true_iff.mp ec
  obtain ⟨e1, e2⟩ := Bool.and_eq_true_iff.mp ec
  obtain ⟨f, fd, ps, F, hb, hs, hf⟩ := S.ex
  obtain ⟨mA, J, _⟩ := ins_get I.hok ha
  obtain ⟨od, J, _⟩ := J.look
  obtain ⟨Pk, kit, pk, _⟩ := kit_of I ry ht
  have u0 := hr.in1.units0
  refine rc_own (op := .NotEq) (tb := t) (by exact Nat.lt_of_succ_lt u0) I.kIn J (kit.ty _ _ I.kIn pk) hn (ne_try u0 I.kIn J (beq_iff_eq.mp e3) (beq_iff_eq.mp e2) hs hf (wpAny_mono (run_spc F hb rfl hg hr.in1 I (.cons (show L2.RelV (.ref a) (.ref a) from rfl) (.cons ry .nil)) rfl h) (fun w s' hv => ?_) fun _ _ z => z))
  obtain ⟨z, H', I', rz, b, rfl, q⟩ := hv
  cases rz
  exact ⟨b, rfl, _, rfl, .bl (!b), H', I', rfl, q⟩
theorem op_eqR (ec : eqCls X.K C = true) (S : Spc g X.prog X.w X.K X.mg X.base k C "__eq__" 2 sp) (hg : Gd g X.A) (hr : Room k X.A) : OpR X (compareOp .Eq) (rEqR X.K C sp false) := by
  intro pins s σ H x y v u Q I rx ry h
  obtain ⟨a, dx, fs, T, rfl, ha, bv, h⟩ := h
  cases ry
  obtain ⟨ec, e3⟩ := Bool.and_eq_true_iff.mp ec
  obtain ⟨e1, e2⟩ := Bool.and_eq_true_iff.mp ec
  obtain ⟨f, fd, ps, F, hb, hs, hf⟩ := S.ex
  obtain ⟨mA, J0, _⟩ := ins_get I.hok ha
  obtain ⟨od, J, _⟩ := J0.look
  have u0 := hr.units0
  have hT := noB_at e1 bv
  refine rc_refl (op := .Eq) u0 I.kIn J (bv_type I bv rx) hT (fun Q' q' => bv_dec I bv rx J0.obj (fun M => J.type.andThen (PySem.W.looks_mroIn I.kIn hT)) .Eq (.inl rfl) q') (eq_try I.kIn J hs hf (wpAny_mono (run_spc F hb rfl hg hr I (.cons (show L2.RelV (.ref a) (.ref a) from rfl) (.cons rx .nil)) rfl h) (fun w s' hv => ?_) fun _ _ z => z))
  obtain ⟨z, H', I', rz, b, rfl, q⟩ := hv
  cases rz
  exact ⟨b, rfl, _, rfl, .bl b, H', I', rfl, q⟩
theorem op_neR (ec : eqCls X.K C = true) (S : Spc g X.prog X.w X.K X.mg X.base k C "__eq__" 2 sp) (hg : Gd g X.A) (hr : Room (k + 1) X.A) : OpR X (compareOp .NotEq) (rEqR X.K C sp true) := by
  intro pins s σ H x y v u Q I rx ry h
  obtain ⟨a, dx, fs, T, rfl, ha, bv, h⟩ := h
  cases ry
  obtain ⟨ec, e3⟩ := Bool.and_eq_true_iff.mp ec
  obtain ⟨e1, e2⟩ := Bool.and_eq_true_iff.mp ec
  obtain ⟨f, fd, ps, F, hb, hs, hf⟩ := S.ex
  obtain ⟨mA, J0, _⟩ := ins_get I.hok ha
  obtain ⟨od, J, _⟩ := J0.look
  have u0 := hr.in1.units0
  have hT := noB_at e1 bv
  refine rc_refl (op := .NotEq) (by exact Nat.lt_of_succ_lt u0) I.kIn J (bv_type I bv rx) hT (fun Q' q' => bv_dec I bv rx J0.obj (fun M => J.type.andThen (PySem.W.looks_mroIn I.kIn hT)) .NotEq (.inr rfl) q') (ne_try u0 I.kIn J (beq_iff_eq.mp e3) (beq_iff_eq.mp e2) hs hf (wpAny_mono (run_spc F hb rfl hg hr.in1 I (.cons (show L2.RelV (.ref a) (.ref a) from rfl) (.cons rx .nil)) rfl h) (fun w s' hv => ?_) fun _ _ z => z))
  obtain ⟨z, H', I', rz, b, rfl, q⟩ := hv
  cases rz
  exact ⟨b, rfl, _, rfl, .bl (!b), H', I', rfl, q⟩
theorem call_strO (S : Spc g X.prog X.w X.K X.mg X.base k C "__str__" 1 sp) (hg : Gd g X.A) (hr : Room (k + 2) X.A) : CallR X (.type "str") (rStrO C sp) := by
  intro pins s σ H xs us Q I r h
  obtain ⟨a, dx, fs, rfl, ha, h⟩ := h
  obtain ⟨u, rfl, ru⟩ := vals1 r
  cases ru
  obtain ⟨f, fd, ps, F, hb, hs, hf⟩ := S.ex
  obtain ⟨mA, J, _⟩ := ins_get I.hok ha
  obtain ⟨od, J, _⟩ := J.look
  have r2 : Room k X.A.in1.in1 := (hr.in1).in1
  refine PySem.W.kso_call r2.units0 I.kIn J hs hf (wpAny_mono (run_spc F hb rfl hg r2 I (.cons (show L2.RelV (.ref a) (.ref a) from rfl) .nil) rfl h) (fun v s' hv => ?_) fun _ _ z => z)
  obtain ⟨y, H', I', ry, z, rfl, q⟩ := hv
  obtain ⟨t, rfl⟩ := ry
  exact ⟨.str z, H', I', ⟨_, rfl⟩, q⟩
end
end Ab

set_option Elab.async false
set_option linter.all false
set_option maxRecDepth 100000
set_option maxHeartbeats 4000000
/-! AbS: sorted(set(xs)) of a list or tuple of texts. -/
namespace Ab
open PySem PySem.Spec PyProof.Rows L2
def keyS (e : Int × Value) : Str := match e.2 with | .str k _ => k | _ => Str.empty
def GoodS (w : World) (e : Int × Value) : Prop := ∃ k tk, e.2 = Value.str k tk ∧ e.1 = hashStr w k
/-- the set of texts at a -/
def SetS (w : World) (h : Heap) (a : Addr) (S : Str → Bool) (n : Nat) : Prop :=
  ∃ o es ep t, h.get? a = some o ∧ o.ExactSet ∧ o.data = .set es ep t ∧ (∀ e ∈ es.toList, GoodS w e) ∧ (es.toList.map keyS).Nodup ∧ (∀ k, S k = true ↔ k ∈ es.toList.map keyS) ∧
    es.size < scanBound ∧ t.fits es.size = true ∧ es.size = n ∧ Ris t.place.toList ∧ (w.params.followText "set-order" = true ∨ t.led = true)
section
variable {P : Program} {w : World} {h h' : Heap} {a : Addr} {S : Str → Bool} {n : Nat}
theorem SetS.at (R : SetS w h a S n) (k : ∀ o, h.get? a = some o → h'.get? a = some o) : SetS w h' a S n := by
  obtain ⟨o, es, ep, t, ho, r⟩ := R
  exact ⟨o, es, ep, t, k o ho, r⟩
theorem SetS.congr {S' : Str → Bool} (R : SetS w h a S n) (e : ∀ k, S' k = S k) : SetS w h a S' n := by
  rw [show S' = S from funext e]
  exact R
theorem gs_elems {l : List (Int × Value)} (g : ∀ e ∈ l, GoodS w e) : ElemsOf (PySem.strKind P w) l := fun e he => by
  obtain ⟨k, tk, h1, h2⟩ := g e he
  exact ⟨⟨k, by rw [h1]; exact strKind_is P w k tk, h2⟩, by rw [h1] <;> rfl⟩
theorem gs_is {e : Int × Value} (g : GoodS w e) (k : Str) : (PySem.strKind P w).is k e.2 = true ↔ keyS e = k := by
  obtain ⟨k0, tk, h1, _⟩ := g
  unfold keyS
  rw [h1]
  constructor
  · intro h
    obtain ⟨t, q⟩ := Value.isStrOf_shape (show Value.isStrOf k (.str k0 tk) = true from h)
    injection q with e1 e2
  · rintro rfl
    exact strKind_is P w k0 tk
theorem gs_mem {l : List (Int × Value)} (g : ∀ e ∈ l, GoodS w e) (k : Str) : k ∈ l.map keyS ↔ ∃ e ∈ l, (PySem.strKind P w).is k e.2 = true := by
  rw [List.mem_map]
  exact ⟨fun ⟨e, he, q⟩ => ⟨e, he, (gs_is (g e he) k).2 q⟩, fun ⟨e, he, q⟩ => ⟨e, he, (gs_is (g e he) k).1 q⟩⟩
end
section
variable {P : Program} {w : World} {A : Around} {E : Value → Shared → Prop} {s : Shared} {a : Addr} {S : Str → Bool} {n : Nat}
theorem ss_tail {g : Bool → Sem Unit} (hg : ∀ (b : Bool) (s₁ : Shared) (Q' : Unit → Shared → Prop), Q' () s₁ → wpAny (model P w) A (g b) Q' E s₁)
    {o : Obj} {es : Array (Int × Value)} {ep : Nat} {t : SetTable} (ho : s.heap.get? a = some o) (hex : o.ExactSet) (hd : o.data = .set es ep t)
    {es1 : Array (Int × Value)} {t2 : SetTable} {S' : Str → Bool} (g1 : ∀ e ∈ es1.toList, GoodS w e) (nd1 : (es1.toList.map keyS).Nodup) (m1 : ∀ k, S' k = true ↔ k ∈ es1.toList.map keyS)
    (hb1 : es1.size < scanBound) (hf2 : t2.fits es1.size = true) (hr : Ris t2.place.toList) (hl : w.params.followText "set-order" = true ∨ t2.led = true) {wd : Bool} {R : Option Bool → Shared → Prop}
    (hR : ∀ h', Heap.SameBut a s.heap h' → SetS w h' a S' es1.size → R (some true) { s with heap := h' }) :
    wpAny (model P w) A (do
        storeSet a es1 t2
        if (!wd && t2.tooFull) = true then do
            g (relayAll t2 es1 (SetTable.grown es1.size)).2.2
            storeSet a (relayAll t2 es1 (SetTable.grown es1.size)).1 (relayAll t2 es1 (SetTable.grown es1.size)).2.1
            pure (some true)
          else pure (some true)) R E s := by
  refine wpAny_bind (wpAny_storeSet_of ho hd ?_ (fits_of_scanBound hb1))
  have ho1 := store_at (es' := es1) (t' := t2) ho hd
  have sb1 := Heap.SameBut.update s.heap a (Obj.putSet es1 t2)
  split
  · have pm := relayAll_perm t2 es1 (SetTable.grown es1.size)
    have hf3 := relayAll_fits t2 es1 (SetTable.grown es1.size)
    have hr3 := relayAll_ris t2 es1 (SetTable.grown es1.size)
    have hl3 := relayAll_led t2 es1 (SetTable.grown es1.size)
    generalize relayAll t2 es1 (SetTable.grown es1.size) = Z at pm hf3 hr3 hl3 ⊢
    obtain ⟨es2, t3, gave⟩ := Z
    dsimp only at pm hf3 hr3 hl3 ⊢
    have hsz : es2.size = es1.size := by rw [← Array.length_toList, pm.length_eq, Array.length_toList]
    have hb2 : es2.size < scanBound := by rw [hsz]; exact hb1
    refine wpAny_bind (hg _ _ _ ?_)
    refine wpAny_bind (wpAny_storeSet_of ho1 rfl ?_ (fits_of_scanBound hb2))
    have ho2 := store_at (es' := es2) (t' := t3) ho1 rfl
    refine wpAny_pure (hR _ (sb1.trans (Heap.SameBut.update _ a _)) ?_)
    exact ⟨_, es2, _, t3, ho2, hex, rfl, fun e he => g1 e (pm.mem_iff.mp he), (pm.map keyS).nodup_iff.mpr nd1, fun k => (m1 k).trans (pm.map keyS).mem_iff.symm, hb2, hf3, hsz, hr3,
      hl.imp id fun z => by rw [hl3]; exact z⟩
  · exact wpAny_pure (hR _ sb1 ⟨_, es1, _, t2, ho1, hex, rfl, g1, nd1, m1, hb1, hf2, rfl, hr, hl⟩)
theorem ss_add {k : Str} {tk : Tok} {Q : Bool → Shared → Prop} (R : SetS w s.heap a S n) (room : n + 1 < scanBound)
    (hQ : ∀ h', Heap.SameBut a s.heap h' → SetS w h' a (fun j => S j || decide (j = k)) (if S k = true then n else n + 1) → Q (!S k) { s with heap := h' }) :
    wpAny (model P w) A (setAddHashed a (.str k tk) ((PySem.strKind P w).hash k)) Q E s := by
  obtain ⟨o, es, ep, t, ho, hex, hd, g, nd, hm, hb, hf, hn, hr, hl⟩ := R
  have hkey : (PySem.strKind P w).is k (.str k tk) = true := strKind_is P w k tk
  have hsc : (Value.str k tk).scannable = true := rfl
  have hel : ElemsOf (PySem.strKind P w) es.toList := gs_elems g
  unfold setAddHashed setAddHashedIn
  refine wpAny_holding (wpAny_bind (wpAny_setState_of ho hd hf ?_))
  dsimp only
  rw [byScan_of hsc hb hel]
  simp only [↓reduceIte]
  unfold setAddByScan
  refine wpAny_bind ?_
  refine wpAny_bind (wpAny_rule ?_)
  refine wpAny_bind (wpAny_setScan_of hkey ho hd hf hel ?_)
  cases hfi : List.findIdx? (fun e => (PySem.strKind P w).is k e.2) es.toList with
  | some j =>
    dsimp only
    obtain ⟨hj, pj, _⟩ := List.findIdx?_eq_some_iff_getElem.mp hfi
    have hSk : S k = true := (hm k).2 ((gs_mem (P := P) g k).2 ⟨es.toList[j], List.getElem_mem hj, pj⟩)
    refine wpAny_pure (wpAny_pure ?_)
    have q := hQ s.heap (Heap.SameBut.refl a s.heap) ⟨o, es, ep, t, ho, hex, hd, g, nd, fun i => by
      rw [Bool.or_eq_true, decide_eq_true_eq, ← hm i]
      exact ⟨fun z => z.elim id (fun e => e ▸ hSk), .inl⟩, hb, hf, by rw [if_pos hSk]; exact hn, hr, hl⟩
    rw [hSk] at q
    exact q
  | none =>
    dsimp only
    have hnk : k ∉ es.toList.map keyS := fun z => by
      obtain ⟨e, he, q⟩ := (gs_mem (P := P) g k).1 z
      have c := List.findIdx?_eq_none_iff.mp hfi e he
      rw [q] at c
      cases c
    have hSk : S k = false := by
      cases q : S k with
      | false => rfl
      | true => exact absurd ((hm k).1 q) hnk
    have hgw : ∀ (b : Bool) {s₁ : Shared} {Q' : Unit → Shared → Prop}, Q' () s₁ → wpAny (model P w) A (match b with | true => rule "set.scan.the-table-gave-way" | false => pure ()) Q' E s₁ :=
      fun b s₁ Q' q => by cases b <;> first | exact wpAny_pure q | exact wpAny_rule q
    have pm := layNew_perm t es ((PySem.strKind P w).hash k) (.str k tk)
    have hf1 := layNew_fits t es ((PySem.strKind P w).hash k) (.str k tk)
    have hr1 := layNew_ris t es ((PySem.strKind P w).hash k) (.str k tk) hr
    have hl1 := layNew_led t es ((PySem.strKind P w).hash k) (.str k tk)
    generalize layNew t es ((PySem.strKind P w).hash k) (.str k tk) = Z at pm hf1 hr1 hl1 ⊢
    obtain ⟨es1, t1, wasDummy, gave⟩ := Z
    dsimp only at pm hf1 hr1 hl1 ⊢
    rw [Array.toList_push] at pm
    have pc : es1.toList.Perm (((PySem.strKind P w).hash k, Value.str k tk) :: es.toList) := pm.trans (List.perm_append_singleton _ _)
    have pk : (es1.toList.map keyS).Perm (k :: es.toList.map keyS) := pc.map keyS
    have g1 : ∀ e ∈ es1.toList, GoodS w e := fun e he => by
      rcases List.mem_cons.mp (pc.mem_iff.mp he) with z | z
      · rw [z]; exact ⟨k, tk, rfl, rfl⟩
      · exact g e z
    have nd1 : (es1.toList.map keyS).Nodup := pk.nodup_iff.mpr (List.nodup_cons.mpr ⟨hnk, nd⟩)
    have m1 : ∀ i, (S i || decide (i = k)) = true ↔ i ∈ es1.toList.map keyS := fun i => by
      rw [Bool.or_eq_true, decide_eq_true_eq, hm i, pk.mem_iff, List.mem_cons]
      exact Or.comm
    have hsz : es1.size = n + 1 := by rw [← Array.length_toList, pc.length_eq, List.length_cons, Array.length_toList, hn]
    have hb1 : es1.size < scanBound := by rw [hsz]; exact room
    have hled : w.params.followText "set-order" = true ∨ t1.led = true := hl.imp id fun z => by rw [hl1]; exact z
    have fin : ∀ h', Heap.SameBut a s.heap h' → SetS w h' a (fun j => S j || decide (j = k)) es1.size → Q true { s with heap := h' } := fun h' sb r => by
      have q := hQ h' sb
      rw [hSk] at q
      rw [hsz] at r
      exact q r
    refine wpAny_bind (hgw _ ?_)
    split
    · refine wpAny_bind ?_
      rw [hashByValue_scannable 8 hsc]
      refine wpAny_pure ?_
      refine ss_tail ?_ ho hex hd g1 nd1 m1 hb1 ?_ ?_ ?_ ?_
      · intro b s₁ Q' q; cases b <;> first | exact wpAny_pure q | exact wpAny_rule q
      · first | (split <;> first | exact hf1 | exact SetTable.fits_plain_off hf1) | exact hf1
      · first | (split <;> exact hr1) | exact hr1
      · first | (split <;> exact hled) | exact hled
      · intro h' sb r; dsimp only; exact wpAny_pure (fin h' sb r)
    · refine wpAny_bind (wpAny_pure ?_)
      simp only [↓reduceIte]
      refine ss_tail ?_ ho hex hd g1 nd1 m1 hb1 hf1 hr1 hled ?_
      · intro b s₁ Q' q; cases b <;> first | exact wpAny_pure q | exact wpAny_rule q
      · intro h' sb r; dsimp only; exact wpAny_pure (fin h' sb r)
theorem ss_fresh {h : Heap} {a : Addr} {ns : List Str} (ho : h.get? a = some { cls := .type "set", dict := none, data := .set #[] 0 (.fresh 0 0 (!w.params.followText "set-order")) }) : SetS w h a (fun j => decide (j ∈ ns.take 0)) 0 :=
  ⟨_, #[], 0, _, ho, ⟨rfl, rfl, rfl⟩, rfl, (fun e he => by simp at he), (by simp), (fun k => by simp), (by decide), (by rfl), rfl, List.Pairwise.nil, by
    show _ ∨ (!w.params.followText "set-order") = true
    cases w.params.followText "set-order"
    · exact .inr rfl
    · exact .inl rfl⟩
theorem ss_update {I : Addr} {fp wr : List Addr} {G : Array GenState → Array GenState → Prop} {n : Nat} {Pv : Nat → Value → Prop} {St : Nat → Shared → Prop} {R : Result → Shared → Prop}
    (W : WalksS P w A.in1 I fp wr G n Pv St) (S : Addr) (hSf : S ∉ fp) (ns : List Str) (hn : n = ns.length) (hb : ns.length + 1 < scanBound) (hval : ∀ i v, Pv i v → ∃ k t, ns[i]? = some k ∧ v = .str k t) :
    ∀ (k i : Nat) (s : Shared), n - i = k → i ≤ n → St i s → (∃ c, c ≤ i ∧ SetS w s.heap S (fun j => decide (j ∈ ns.take i)) c) →
      (∀ s' c, Moved (S :: wr) G s s' → c ≤ n → SetS w s'.heap S (fun j => decide (j ∈ ns)) c → R (.ok (.ret .none)) s') →
      codeAny (model P w) A (.builtin "set.update.loop" ⟨[.ref S, .ref I], []⟩) R s := by
  have hSw : S ∉ wr := fun h => hSf (W.sub _ h)
  have hsub : ∀ b ∈ wr, b ∈ S :: wr := fun b hb => List.mem_cons_of_mem _ hb
  intro k
  induction k with
  | zero =>
    intro i s hk' hi hst ⟨c, hc, hS⟩ hR
    have hin : i = n := by omega
    subst hin
    refine codeAny_builtin PyProof.Rows.F.entry_set_update_loop ?_
    rw [Around.under_plainId PyProof.Rows.F.plain_set_update_loop _]
    show wpAny _ A.in1 (pyNext (.ref I) >>= _) _ _ s
    refine wpAny_bind (W.done s _ _ hst fun s' hm => ?_)
    show wpAny _ A.in1 (ret Value.none) _ _ s'
    have e : ns.take i = ns := List.take_of_length_le (by omega)
    rw [e] at hS
    exact wpAny_pure (hR s' c (hm.mono hsub) hc (hS.at fun o e => hm.heap S o hSw e))
  | succ k ih =>
    intro i s hk' hi hst ⟨c, hc, hS⟩ hR
    have hlt : i < n := by omega
    refine codeAny_builtin PyProof.Rows.F.entry_set_update_loop ?_
    rw [Around.under_plainId PyProof.Rows.F.plain_set_update_loop _]
    show wpAny _ A.in1 (pyNext (.ref I) >>= _) _ _ s
    refine wpAny_bind (W.item i s _ _ hlt hst fun v s' hP hst' hm => ?_)
    obtain ⟨z, t, hz, rfl⟩ := hval i v hP
    have hS' : SetS w s'.heap S (fun j => decide (j ∈ ns.take i)) c := hS.at fun o e => hm.heap S o hSw e
    show wpAny _ A.in1 (holding [Value.str z t] (setAdd S (.str z t)) >>= _) _ _ s'
    refine wpAny_bind (wpAny_holding ?_)
    unfold setAdd
    refine wpAny_holding ?_
    refine wpAny_bind ((PySem.strKind P w).pyHash (k := z) (strKind_is _ _ _ _) ?_)
    refine ss_add (s := { s' with toks := s'.toks + 1 }) hS' (by omega) fun h' hsb hS2 => ?_
    have hS3 : SetS w h' S (fun j => decide (j ∈ ns.take (i + 1))) (if decide (z ∈ ns.take i) = true then c else c + 1) := hS2.congr fun j => by
      rw [List.take_add_one, hz]
      simp [List.mem_append]
    have hc3 : (if decide (z ∈ ns.take i) = true then c else c + 1) ≤ i + 1 := by
      split <;> omega
    refine wpAny_pure ⟨plainId_quiet PyProof.Rows.F.plain_set_update_loop _, ih (i + 1) _ (by omega) hlt (W.frame _ s' _ _ hst' (Nat.le_succ _) fun b hb o e => ?_) ⟨_, hc3, hS3⟩ fun s'' c2 hm'' hc'' hS'' => ?_⟩
    · rw [hsb.2 b (fun h : b = S => hSf (by rw [← h]; exact hb))]; exact e
    · refine hR s'' c2 (Moved.trans W.gtrans ((hm.mono hsub).then_heap (Nat.le_succ _) fun b o hb e => ?_) hm'') hc'' hS''
      rw [hsb.2 b (fun h : b = S => hb (by rw [h]; exact List.mem_cons_self))]; exact e
set_option maxRecDepth 100000 in
set_option maxHeartbeats 3200000 in
theorem ss_list {l : Addr} {items : Array Value} (ns : List Str) {Q : Value → Shared → Prop} (hh : A.handled = none) (hl : s.heap.IsList l items) (hit : StrsAre items.toList ns) (hb : ns.length + 1 < scanBound)
    (h : ∀ (h' : Heap) (tk c : Nat), SetS w h' s.heap.objs.size (fun j => decide (j ∈ ns)) c → c ≤ ns.length → (∀ b o, s.heap.get? b = some o → h'.get? b = some o) → Q (.ref s.heap.objs.size) { s with heap := h', toks := tk }) :
    wpAny (model P w) A (call (.type "set") [.ref l]) Q E s := by
  have hisz : items.size = ns.length := by
    have q := StrsAre.len_eq hit
    rw [Array.length_toList] at q
    exact q
  obtain ⟨c, tl, hmro⟩ := PySem.F.called_set.mro
  have hmade := PySem.F.called_set.made
  have hsub := PySem.F.called_set.sub
  refine wpAny_call (codeAny_of_tree ?_)
  show wpAny _ _ (callAny (.type "set") _) _ _ _
  refine wpAny_pure ⟨Code.quiet_builtin _ (by decide +kernel), codeAny_builtin PySem.F.entry_type_call ?_⟩
  rw [Around.under_plain (weight_type_call_type "set" [.ref l] []) rfl]
  have h1 := PySem.F.called_set.notType
  have h2 := PySem.F.called_set.canCreate
  have hct := PySem.F.typeCall_set_1 (.ref l)
  repeat (any_goals (first | assumption | wp_step))
  refine codeAny_mono (code_set_led1 (.ref l) (E := E) (Q₁ := fun obj s₁ => obj = .ref s.heap.objs.size ∧ s₁ = { s with heap := s.heap.push { cls := .type "set", dict := none, data := .set #[] 0 (.fresh 0 0 (!w.params.followText "set-order")) } }) ⟨rfl, rfl⟩) fun r s₁ hr => ?_
  cases r with
  | error e => exact hr
  | ok fl =>
    cases fl with
    | ret obj =>
      obtain ⟨rfl, rfl⟩ := hr
      have hS : (s.heap.push { cls := .type "set", dict := none, data := .set #[] 0 (.fresh 0 0 (!w.params.followText "set-order")) }).get? s.heap.objs.size = some { cls := .type "set", dict := none, data := .set #[] 0 (.fresh 0 0 (!w.params.followText "set-order")) } := Heap.get?_push_size _ rfl
      have hT : Shared.TypeIs { s with heap := s.heap.push { cls := .type "set", dict := none, data := .set #[] 0 (.fresh 0 0 (!w.params.followText "set-order")) } } (.ref s.heap.objs.size) "set" := ⟨_, hS, rfl⟩
      have hli := PySem.F.called_set.init.lookup
      have hbi := PySem.F.called_set.init.bind (.ref s.heap.objs.size)
      repeat (any_goals (first | assumption | wp_step))
      refine codeAny_mono (codeAny_call_builtin (R := wants (fun r s₂ => r = .none ∧ ∃ h' tk c, s₂ = { s with heap := h', toks := tk } ∧ SetS w h' s.heap.objs.size (fun j => decide (j ∈ ns)) c ∧ c ≤ ns.length ∧
          (∀ b o, s.heap.get? b = some o → h'.get? b = some o)) E) PySem.F.called_set.init.plain PySem.F.entry_set_init (check_set_init_1 hT ?_)) fun r₂ s₂ hr₂ => ?_
      · obtain ⟨ol, hol, hcl, nl, hdl⟩ := hl
        obtain ⟨ocls, odict, odata, oslots⟩ := ol
        simp only at hcl hdl
        subst hcl; subst hdl
        have hol' : (s.heap.push { cls := .type "set", dict := none, data := .set #[] 0 (.fresh 0 0 (!w.params.followText "set-order")) }).get? l = some { cls := .type "list", dict := odict, data := .seq items nl, slots := oslots } := Heap.get?_push_of_some _ hol
        have hsls := PySem.F.sub_list_set
        have hslf := PySem.F.sub_list_frozenset
        have hne : (Value.type "list" == Value.type "dict") = false := by decide
        have hl1 : (s.heap.push { cls := .type "set", dict := none, data := .set #[] 0 (.fresh 0 0 (!w.params.followText "set-order")) }).IsList l items := ⟨_, hol', rfl, nl, rfl⟩
        unfold Builtin.«set.__init__» noKeywords Builtin.Frozenset.updateFrom
        generalize hPI : pyIter = PI
        wp_walk
        subst hPI
        refine wpAny_pyIter_list hl1 ?_
        refine wpAny_bind (wpAny_runValue ?_)
        have hlS : l < s.heap.objs.size := Heap.lt_size hol
        have hh3 : A.in1.in1.in1.handled = none := by simp [hh]
        have hneI : l ≠ (s.heap.push { cls := .type "set", dict := none, data := .set #[] 0 (.fresh 0 0 (!w.params.followText "set-order")) }).objs.size := by
          rw [Heap.size_push]; exact Nat.ne_of_lt (Nat.lt_succ_of_lt hlS)
        have hSf : s.heap.objs.size ∉ [(s.heap.push { cls := .type "set", dict := none, data := .set #[] 0 (.fresh 0 0 (!w.params.followText "set-order")) }).objs.size, l] := by
          rw [Heap.size_push]; simp only [List.mem_cons, List.mem_singleton, List.not_mem_nil, or_false, not_or]
          exact ⟨Nat.ne_of_lt (Nat.lt_succ_self _), Nat.ne_of_gt hlS⟩
        have hval : ∀ (i : Nat) (v : Value), items[i]? = some v → ∃ k t, ns[i]? = some k ∧ v = .str k t := fun i v hv => by
          have hi : i < ns.length := by rw [← hisz]; exact (Array.getElem?_eq_some_iff.mp hv).1
          obtain ⟨t, e⟩ := SS.strs_at hit i v (by rw [Array.getElem?_toList]; exact hv)
          refine ⟨ns[i], t, List.getElem?_eq_getElem hi, ?_⟩
          rw [e, List.getD_eq_getElem?_getD, List.getElem?_eq_getElem hi] <;> rfl
        refine ss_update ((Walks.list hh3 _ l hneI items).toS) s.heap.objs.size
          hSf ns hisz hb hval (items.size - 0) 0 _ (by omega) (Nat.zero_le _)
          ⟨⟨_, Heap.get?_push_size _ rfl, rfl, rfl⟩, (hl1.push _)⟩ ?hS0 ?hR
        case hS0 =>
          refine ⟨0, Nat.le_refl 0, ss_fresh ?_⟩
          exact Heap.get?_push_of_some _ hS
        case hR =>
          intro s' c' hm hc' hS'
          obtain ⟨h', g2, d', tk', os'⟩ := s'
          have eg : g2 = s.gens := hm.gens
          have ed : d' = s.drawn := hm.drawn
          have eo : os' = s.os := hm.os
          subst eg; subst ed; subst eo
          show wpAny _ _ _ _ _ _
          refine wpAny_pure ?_
          show wpAny _ _ (ret Value.none) _ _ _
          rw [hisz] at hc'
          refine wpAny_pure ⟨rfl, h', tk', c', rfl, hS', hc', fun b o e => ?_⟩
          have hb0 : b < s.heap.objs.size := Heap.lt_size e
          have hb1 : b ≠ s.heap.objs.size := Nat.ne_of_lt hb0
          have hb2 : b ≠ (s.heap.push { cls := .type "set", dict := none, data := .set #[] 0 (.fresh 0 0 (!w.params.followText "set-order")) }).objs.size := by
            rw [Heap.size_push]; exact Nat.ne_of_lt (Nat.lt_succ_of_lt hb0)
          exact hm.heap b o (by simp only [List.mem_cons, List.mem_singleton, List.not_mem_nil, or_false, not_or]; exact ⟨hb1, hb2⟩) (Heap.get?_push_of_some _ (Heap.get?_push_of_some _ e))
      · cases r₂ with
        | error e => exact hr₂
        | ok fl₂ =>
          cases fl₂ with
          | ret r =>
            obtain ⟨rfl, h', tk, c', rfl, hS', hc', hk'⟩ := hr₂
            repeat (any_goals (first | assumption | wp_step))
            exact h _ _ _ hS' hc' hk'
          | _ => exact hr₂.elim
    | _ => exact hr.elim
theorem strs_ofv : ∀ (l : List Value), (∀ v ∈ l, ∃ k tk, v = Value.str k tk) → ∃ ss, StrsAre l ss ∧ ss = l.map fun v => keyS (0, v)
  | [], _ => ⟨[], .nil, rfl⟩
  | v :: l, h => by
    obtain ⟨k, tk, rfl⟩ := h v List.mem_cons_self
    obtain ⟨ss, h1, h2⟩ := strs_ofv l fun u hu => h u (List.mem_cons_of_mem _ hu)
    exact ⟨k :: ss, .cons k tk h1, by rw [h2]; rfl⟩
theorem ss_sorted {S : Str → Bool} {n : Nat} {Q : Value → Shared → Prop} (R : SetS w s.heap a S n) (hh : A.handled = none) (h64 : n < 64)
    (hQ : ∀ s' p (out : Array Value) (c : Nat) (ns : List Str), (∀ b o, s.heap.get? b = some o → s'.heap.get? b = some o) → s'.gens = s.gens → s'.os = s.os → s.heap.objs.size ≤ p →
      s'.heap.get? p = some (seqObj "list" out c) → StrsAre out.toList ns → sortedS ns = true → ns.Nodup → (∀ k, k ∈ ns ↔ S k = true) → ns.length = n → Q (.ref p) s') :
    wpAny (model P w) A (call (.builtin "sorted") [.ref a]) Q E s := by
  obtain ⟨o, es, ep, t, ho, hex, hd, g, nd, hm, hb, hf, hn, hr, hl⟩ := R
  refine Calls.call_function_entry kind_sorted plain_sorted entry_sorted (args_sorted1 _) ?_
  unfold Builtin.«sorted»
  refine wpAny_bind (m := checkCount "sorted" 1 1 _) (wpAny_pure ?_)
  refine wpAny_bind (collect_set (A := A.in1) hh ⟨o, ho, hex.1, hd⟩ hf hb hr hl fun s1 vs k1 hz g1 o1 pm => ?_)
  have hvl : vs.length = n := by rw [pm.length_eq, List.length_map, Array.length_toList]; exact hn
  obtain ⟨ss, hI, hss⟩ := strs_ofv vs fun v hv => by
    obtain ⟨e, he, q⟩ := List.mem_map.mp (pm.mem_iff.mp hv)
    obtain ⟨k, tk, h1, _⟩ := g e he
    exact ⟨k, tk, by rw [← q]; exact h1⟩
  have pk : ss.Perm (es.toList.map keyS) := by
    have q := pm.map fun v => keyS (0, v)
    rw [List.map_map] at q
    rw [hss]
    exact q
  refine wpAny_bind (wpAny_newList ?_ (by rw [hvl, sizeLine_eq]; omega))
  have hoL : (s1.heap.push (seqObj "list" vs.toArray 0)).get? s1.heap.objs.size = some (seqObj "list" vs.toArray 0) := Heap.get?_push_size _ rfl
  refine wpAny_bind (wpAny_holding (wpAny_call_entry slot_list_sort ⟨_, hoL, rfl⟩ entry_list_sort (list_sort_treeK strKind_oneLt hoL hI.keysOf (fun v₁ v₂ rest e => keyKind_strs (by rw [← e]; exact hI)) (by rw [hvl]; exact h64) fun st' hp hs => ?_) (args_list_sort _)))
  obtain ⟨ns', a1, a2, a3⟩ := sorted_out_str hI hp hs
  generalize (arrOf st').map (·.2) = out at a1 ⊢
  refine ⟨_, rfl, ?_⟩
  obtain ⟨c, hc⟩ := sortedHeap_at (vs := vs) (out := out) hoL
  have pn : ns'.Perm (es.toList.map keyS) := a2.trans pk
  refine wpAny_pure ⟨_, rfl, hQ _ s1.heap.objs.size out c ns' (fun b u e => ?_) g1 o1 hz hc a1 a3 (pn.nodup_iff.mpr nd) (fun k => by rw [pn.mem_iff, ← hm k]) ?_⟩
  · have q := k1 b u e
    have hlt := Heap.lt_size q
    show (sortedHeap (s1.heap.push (seqObj "list" vs.toArray 0)) s1.heap.objs.size vs out).get? b = some u
    rw [sortedHeap_old (Nat.ne_of_lt hlt) (by rw [size_push']; exact Nat.lt_succ_of_lt hlt)]
    exact Heap.get?_push_of_some _ q
  · rw [pn.length_eq, List.length_map, Array.length_toList]; exact hn
end
/-! ### at the hand's level -/
def tSortSet (K : PySem.W.Frag) (ta : TE) : TE := fun σ H Q => ta σ H fun x H1 => ∃ l, ∃ xs : List Str, x = .ref l ∧ SqL K H1 l (xs.map V.str) ∧ xs.length < 64 ∧
  ∀ (ys : List Str) (p : Addr), sortedS ys = true → ys.Nodup → (∀ k, k ∈ ys ↔ k ∈ xs) → H1 p = none → Q (.ref p) (upd H1 p (.lst (ys.map V.str)))
section
variable {X : Cx}
theorem pe_sortSet {a : Expr} {ta : TE} {p p2 q pos : Pos} (hc : X.calm = true) (hg : Gl X "sorted") (hm : X.mg "sorted" = none) (hg2 : Gl X "set") (hm2 : X.mg "set" = none) (ha : PE X a ta)
    (na : starEach [a] X.env = (false, eval a X.env) :: starEach [] X.env := by rfl) : PE X (.Call (.Name "sorted" p) [.Call (.Name "set" p2) [a] [] q] [] pos) (tSortSet X.K ta) := by
  refine ⟨fun pins s σ H Q I h => ?_⟩
  refine Call_ (ld_blt I hg hm PyProof.Rows.boot_sorted ?_)
  refine PyProof.Rows.callWith_builtin1 (PyProof.Rows.args_cons ?_ rfl) rfl rfl
  refine Call_ (ld_blt I hg2 hm2 boot_set ?_)
  refine PyProof.Rows.callWith_type1 (PyProof.Rows.args_cons (thn (ha.run pins s σ H _ I h) fun v s1 ⟨x, H1, I1, r1, q1⟩ => PyProof.Rows.args_nil ?_) na) na rfl
  obtain ⟨l, xs, rfl, hq, h64, q1⟩ := q1
  cases r1
  obtain ⟨its, r, pl, hz⟩ := I1.list hq
  refine ss_list xs (I1.ok.hd hc) pl.isList (by simpa using strsAre_of r) (by unfold scanBound; omega) fun h' tk c hS hc' hk => PyProof.Rows.args_nil ?_
  have I2 : Inv X pins σ H1 { s1 with heap := h', toks := tk } := I1.kept fun b o e => hk b o e
  refine ss_sorted hS (I1.ok.hd hc) (Nat.lt_of_le_of_lt hc' h64) fun s' p out c2 ns k g o hp hg hi hs hnd hm hl => ?_
  have hlen : (ns.map V.str).length ≤ sizeLine := by rw [List.length_map, hl, sizeLine_eq]; omega
  have hn : H1 p = none := I2.hok.fresh hp
  have J : Inv X pins σ (upd H1 p (.lst (ns.map V.str))) { ({ s1 with heap := h', toks := tk } : Shared) with heap := s'.heap, gens := s'.gens, drawn := s'.drawn, toks := s'.toks } :=
    I2.call (ch := []) (Un.laid k hp hn) (I2.hok.laid k hp ⟨hlen, out.toList, c2, vals_of_strs hi, hg⟩) (by rw [g]; exact I2.bare) (fun _ z => nomatch z)
  have e : s' = { ({ s1 with heap := h', toks := tk } : Shared) with heap := s'.heap, gens := s'.gens, drawn := s'.drawn, toks := s'.toks } := by
    cases s'
    cases s1
    cases o
    rfl
  rw [e]
  exact ⟨.ref p, _, J, rfl, q1 ns p hs hnd (fun j => by rw [hm j, decide_eq_true_eq]) hn⟩
end
end Ab

set_option Elab.async false
set_option linter.all false
set_option maxRecDepth 100000
set_option maxHeartbeats 4000000
/-! AbU: t[::-1] of a tuple. -/
namespace Ab
open PySem PySem.Spec PyProof.Rows L2
theorem rev_pick (xs : Array Value) : ((List.range (Builtin.Slice.slicePlaces ((xs.size : Int) - 1) (-1) (-1))).filterMap fun (k : Nat) => xs[((xs.size : Int) - 1 + (k : Int) * (-1)).toNat]?).toArray = xs.toList.reverse.toArray := by
  have e : Builtin.Slice.slicePlaces ((xs.size : Int) - 1) (-1) (-1) = xs.size := by
    unfold Builtin.Slice.slicePlaces
    rw [if_neg (by decide)]
    split
    · simp only [Int.neg_neg, Int.ediv_one]
      omega
    · show 0 = xs.size
      omega
  rw [e]
  congr 1
  apply List.ext_getElem?
  intro i
  have h1 : ((List.range xs.size).filterMap fun (k : Nat) => xs[((xs.size : Int) - 1 + (k : Int) * (-1)).toNat]?) = (List.range xs.size).map fun k => xs.getD (xs.size - 1 - k) .none := by
    have h2 : ∀ l : List Nat, (∀ k ∈ l, k < xs.size) → (l.filterMap fun (k : Nat) => xs[((xs.size : Int) - 1 + (k : Int) * (-1)).toNat]?) = l.map fun k => xs.getD (xs.size - 1 - k) .none := by
      intro l
      induction l with
      | nil => intro _; rfl
      | cons k l ih =>
        intro hk
        have hk' := hk k List.mem_cons_self
        have e2 : ((xs.size : Int) - 1 + (k : Int) * (-1)).toNat = xs.size - 1 - k := by omega
        have hl : xs.size - 1 - k < xs.size := by omega
        rw [List.filterMap_cons_some (b := xs.getD (xs.size - 1 - k) .none) (by rw [e2]; simp [Array.getD, hl]), List.map_cons, ih fun j hj => hk j (List.mem_cons_of_mem _ hj)]
    exact h2 _ fun k hk => List.mem_range.mp hk
  rw [h1]
  by_cases hi : i < xs.size
  · rw [List.getElem?_map, List.getElem?_range hi]
    rw [List.getElem?_reverse (by simpa using hi)]
    have hl : xs.size - 1 - i < xs.size := by omega
    simp [Array.getD, hl]
  · rw [List.getElem?_eq_none (by simpa using hi), List.getElem?_eq_none (by simpa using hi)]
section
variable {prog : Program} {w : World} {A : Around} {E : Value → Shared → Prop} {s : Shared}
theorem applied_rev {sl : Addr} {vl vu vs : Value} {n : Nat} {Q : Int × Int × Nat → Shared → Prop} (hs : s.heap.IsSliceOf sl vl vu vs) (pl : IsPart vl none) (pu : IsPart vu none) (ps : IsPart vs (some (-1)))
    (h : Q ((n : Int) - 1, -1, Builtin.Slice.slicePlaces ((n : Int) - 1) (-1) (-1)) s) : wpAny (model prog w) A (Builtin.Slice.sliceApplied (.ref sl) (pure (n : Int))) Q E s := by
  obtain ⟨os, hos, hcs, hds⟩ := id hs
  unfold Builtin.Slice.sliceApplied Builtin.Slice.sliceFields
  refine wpAny_bind (wpAny_bind (wpAny_field hos hds (x := vl) rfl (wpAny_bind (wpAny_field hos hds (x := vu) rfl (wpAny_bind (wpAny_field hos hds (x := vs) rfl (wpAny_pure ?_)))))))
  refine wpAny_bind (HT.slicePart_ ps ?_)
  show wpAny _ _ (if ((-1 : Int) == 0) = true then _ else _) _ _ s
  rw [if_neg (by decide)]
  exact wpAny_bind (HT.slicePart_ pl (wpAny_bind (HT.slicePart_ pu (wpAny_bind (wpAny_pure (wpAny_pure h))))))
theorem getItem_tup_rev {t sl : Addr} {items : Array Value} {vl vu vs : Value} {Q : Value → Shared → Prop} (ht : IsTup s.heap t items) (hs : s.heap.IsSliceOf sl vl vu vs) (pl : IsPart vl none) (pu : IsPart vu none) (ps : IsPart vs (some (-1)))
    (h : Q (.ref s.heap.objs.size) { s with heap := s.heap.push { cls := .type "tuple", data := .seq items.toList.reverse.toArray } })
    (hsz : items.size ≤ sizeLine) : wpAny (model prog w) A (getItem (.ref t) (.ref sl)) Q E s := by
  have htake : sizeOk (.seq items.toList.reverse.toArray) := by
    show items.toList.reverse.toArray.size ≤ sizeLine
    simpa using hsz
  obtain ⟨os, hos, hcs, hds⟩ := id hs
  have hTs : s.TypeIs (.ref sl) "slice" := ⟨os, hos, hcs⟩
  unfold getItem
  try with_reducible refine wpAny_holding ?_
  first | refine wpAny_bind (wpAny_pure ?_) | skip
  refine wpAny_bind (wpAny_sequenceKey ht.typeIs (by decide) ?_)
  refine wpAny_bind (wpAny_callSpecial?_slot (name := Str.ofString "__getitem__") ht.typeIs PyProof.Rows.slot_tuple_getitem
    (wpAny_call_entry PyProof.Rows.slot_tuple_getitem ht.typeIs entry_tuple_getitem ?_ (args_tuple_getitem _ _)))
  show wpAny _ _ (Builtin.Tuple.tupleItemsOf (.ref t) >>= _) _ _ s
  refine wpAny_bind (PyProof.Rows.tupleItemsOf_ ht ?_)
  refine wpAny_bind (wpAny_typeOf hTs ?_)
  rw [if_pos (by decide)]
  refine wpAny_bind (applied_rev hs pl pu ps ?_)
  have hno : ∀ (x : Int) (y : Bool), ¬ ((x == 0 && (-1 : Int) == 1 && y) = true) := fun x y q => by simp at q
  dsimp only
  rw [if_neg (hno _ _), rev_pick]
  first
    | exact wpAny_bind (m := Builtin.Tuple.tupleExact _) (wpAny_newObj_type (wpAny_pure ⟨_, rfl, wpAny_pure h⟩) htake)
    | exact wpAny_bind (m := Builtin.Tuple.tupleExact _) (wpAny_newObj_type (wpAny_bind (wpAny_pure (wpAny_pure ⟨_, rfl, wpAny_pure h⟩))) htake)
    | exact wpAny_bind (wpAny_bind (m := Builtin.Tuple.tupleExact _) (wpAny_newObj_type (wpAny_pure (wpAny_pure ⟨_, rfl, wpAny_pure h⟩)) htake))
    | exact wpAny_bind (wpAny_bind (m := Builtin.Tuple.tupleExact _) (wpAny_newObj_type (wpAny_pure ⟨_, rfl, wpAny_pure h⟩) htake))
end
def tRevT (K : PySem.W.Frag) (te : TE) : TE := fun σ H Q => te σ H fun x H1 => ∃ a xs, x = .ref a ∧ SqT K H1 a xs ∧ ∀ p, H1 p = none → Q (.ref p) (upd H1 p (.tup xs.reverse))
section
variable {X : Cx}
theorem pe_revT {e : Expr} {te : TE} {k : Nat} {p1 p2 p3 pos : Pos} (he : PE X e te) : PE X (.Subscript e (.Slice none none (some (.UnaryOp .USub (.Constant (.int 1) k p1) p2)) p3) pos) (tRevT X.K te) := by
  refine ⟨fun pins s σ H Q I h => ?_⟩
  refine Subscript_ (thn (he.run pins s σ H _ I h) fun v s1 ⟨x, H1, I1, r1, q1⟩ => ?_)
  obtain ⟨a, xs, ex, hx, q⟩ := q1
  subst ex
  cases r1
  have hst : PO X (some (.UnaryOp .USub (.Constant (.int 1) k p1) p2)) (tPart (tUn (rU fun i => .int (-i)) (tC (.int 1)))) := po_some (pe_un un_neg pe_int)
  refine wpAny_Slice (thn (po_none.run pins s1 σ H1 (fun o H2 => o = none ∧ H2 = H1) I1 ⟨rfl, rfl⟩) fun vl s2 ⟨l, H2, I2, pl, el, e2⟩ => ?_)
  subst el e2
  refine thn (po_none.run pins s2 σ H2 (fun o H3 => o = none ∧ H3 = H2) I2 ⟨rfl, rfl⟩) fun vu s3 ⟨u, H3, I3, pu, eu, e3⟩ => ?_
  subst eu e3
  refine thn (hst.run pins s3 σ H3 (fun o H4 => o = some (-1) ∧ H4 = H3) I3 ⟨1, rfl, -1, rfl, rfl, rfl⟩) fun vs s4 ⟨o, H4, I4, ps, eo, e4⟩ => ?_
  subst eo e4
  have I5 : Inv X pins σ H4 { s4 with heap := s4.heap.push { cls := .type "slice", data := .fields #[vl, vu, vs] } } := I4.kept (t' := s4.toks) fun b ob q => Heap.get?_push_of_some _ q
  obtain ⟨its, r, ht, hz⟩ := I5.tuple hx
  have hlen := r.length
  show wpAny (model X.prog X.w) X.A (subscriptTail e (.Slice none none (some (.UnaryOp .USub (.Constant (.int 1) k p1) p2)) p3) (.ref a) (.ref s4.heap.objs.size)) (EP X pins σ Q) X.xe { s4 with heap := s4.heap.push { cls := .type "slice", data := .fields #[vl, vu, vs] } }
  refine tail_any (ops := [.ref a, .ref s4.heap.objs.size]) ht.typeIs (PyProof.Rows.slot_tuple_getitem.lookup) ?_ (by with_unfolding_all rfl)
  refine getItem_tup_rev ht (Heap.IsSliceOf.new _ vl vu vs) pl pu ps ?_ (by rw [List.size_toArray]; omega)
  refine ⟨.ref _, _, I5.laid (t' := s4.toks) (o := .tup xs.reverse) (fun b ob q => Heap.get?_push_of_some _ q) (Nat.le_refl _) ?_, rfl, q _ (I5.hok.fresh (Nat.le_refl _))⟩
  exact ⟨by rw [List.length_reverse]; exact hz, its.reverse, r.reverse, _, Heap.get?_push_size _ rfl, rfl, 0, rfl⟩
end
end Ab

set_option Elab.async false
set_option linter.all false
set_option maxRecDepth 100000
set_option maxHeartbeats 4000000
/-! AbP: making instances by an __init__ that raises, C(..), C(*xs), cls(*xs); classmethods that raise. -/
namespace Ab
open PySem PySem.Spec PyProof.Rows L2
section
variable {X : Cx} {k i : Nat} {f C : Addr} {sp : Sp} {W : WX} {x : Str} {e : Expr} {es : List Expr} {te : TE} {t : TA} {p sp_ pos : Pos}
theorem run_makeX {pins : List (Addr × Obj)} {σ : L2.St} {H : Hp} {s : Shared} {Q : VK} {us : List Value} {vs : List V} (M : Mk X.K C f) (F : FnR X.prog X.w X.K X.mg X.base (L2.CX X.prog X.w) k f sp) (hr : Room (k + 1) X.A) (hx : Takes X W) (I : Inv X pins σ H s) (r : Vals vs us)
    (h : ∀ x dx, H x = Option.none → H dx = Option.none → dx ≠ x → sp (V.ref x :: vs) (upd (upd H dx (.own x)) x (.ins C dx [])) (fun v H2 => v = .non ∧ Q (.ref x) H2) (fun cls d H' => W cls d σ H')) :
    wpAny (model X.prog X.w) X.A (call (.ref C) us) (EP X pins σ Q) X.xe s := by
  have hq := h (s.heap.objs.size + 1) s.heap.objs.size (I.hok.fresh (Nat.le_succ _)) (I.hok.fresh (Nat.le_refl _)) (Nat.ne_of_lt (Nat.lt_succ_self _))
  have I2 := Inv.made (C := C) I
  have r2 : Vals (V.ref (s.heap.objs.size + 1) :: vs) (Value.ref (s.heap.objs.size + 1) :: us) := .cons rfl r
  refine wpAny_call (L2.make_map (f := f) I.kIn M.makes M.init (beq_iff_eq.mp M.fn) (codeAny_mono (F _ X.stack _ _ (Value.ref (s.heap.objs.size + 1) :: us) _ _ _ (hr.make C us []) (I2.env0.make C us []) r2 hq) fun r s' hq' => ?_))
  cases r with
  | error e => exact hx e s' (XE.of_call I2 (fun _ _ _ z => z) hq')
  | ok fl =>
    cases fl with
    | ret u =>
      obtain ⟨v, H', I3, rv, ev, q3⟩ := I2.after hq'
      subst ev
      exact ⟨rv, ⟨V.ref (s.heap.objs.size + 1), H', I3, rfl, q3⟩⟩
    | _ => exact hq'.elim
/-- what C(vs) asks -/
def tMakeX (C : Addr) (sp : Sp) (W : WX) (t : TA) : TE := fun σ H Q => t σ H fun vs H1 => ∀ x dx, H1 x = Option.none → H1 dx = Option.none → dx ≠ x →
  sp (V.ref x :: vs) (upd (upd H1 dx (.own x)) x (.ins C dx [])) (fun v H2 => v = .non ∧ Q (.ref x) H2) (fun cls d H' => W cls d σ H')
theorem pe_mk0X (M : Mk X.K C f) (F : FnR X.prog X.w X.K X.mg X.base (L2.CX X.prog X.w) k f sp) (hr : Room (k + 1) X.A) (hg : Gl X x) (hm : X.mg x = some (.ref C)) (hx : Takes X W) (hdb : (x == ("__debug__" : Str)) = false := by decide) :
    PE X (.Call (.Name x p) [] [] pos) (tMakeX C sp W tNil) := by
  refine ⟨fun pins s σ H Q I h => wpAny_Call_Name_kw (ld_glob I hg hm ?_ hdb)⟩
  exact PySem.W.callWith_K0 I.kIn M.kp (run_makeX (us := []) M F hr hx I .nil h)
theorem pe_makeX (M : Mk X.K C f) (F : FnR X.prog X.w X.K X.mg X.base (L2.CX X.prog X.w) k f sp) (hr : Room (k + 1) X.A) (hg : Gl X x) (hm : X.mg x = some (.ref C)) (hx : Takes X W) (ha : PA X (e :: es) t) (hdb : (x == ("__debug__" : Str)) = false := by decide)
    (he : starEach (e :: es) X.env = (false, eval e X.env) :: starEach es X.env := by rfl) (hpl : (backTo pos (starEach es X.env)).any (·.1) = false := by rfl) : PE X (.Call (.Name x p) (e :: es) [] pos) (tMakeX C sp W t) := by
  refine ⟨fun pins s σ H Q I h => wpAny_Call_Name_kw (ld_glob I hg hm ?_ hdb)⟩
  refine PySem.W.callWith_K (h₀ := X.base) I.ok.mod.kin M.kp (thn (ha.run pos pins s σ H _ I h) fun us s1 ⟨vs, H1, I1, r, q⟩ => ⟨I1.kIn, ?_⟩) he hpl
  exact run_makeX M F hr hx I1 r q
/-- C(*xs), C by its module's name -/
def tMakeSX (K : PySem.W.Frag) (C : Addr) (sp : Sp) (W : WX) (te : TE) : TE := fun σ H Q => te σ H fun y H1 => ∃ a vs, y = V.ref a ∧ (SqT K H1 a vs ∨ SqL K H1 a vs) ∧ ∀ x dx, H1 x = Option.none → H1 dx = Option.none → dx ≠ x →
  sp (V.ref x :: vs) (upd (upd H1 dx (.own x)) x (.ins C dx [])) (fun v H2 => v = .non ∧ Q (.ref x) H2) (fun cls d H' => W cls d σ H')
theorem pe_makeSX (M : Mk X.K C f) (F : FnR X.prog X.w X.K X.mg X.base (L2.CX X.prog X.w) k f sp) (hr : Room (k + 1) X.A) (hg : Gl X x) (hm : X.mg x = some (.ref C)) (hx : Takes X W) (he : PE X e te) (hdb : (x == ("__debug__" : Str)) = false := by decide)
    (hst : starEach [.Starred e sp_] X.env = [(true, eval e X.env)] := by rfl) : PE X (.Call (.Name x p) [.Starred e sp_] [] pos) (tMakeSX X.K C sp W te) := by
  refine ⟨fun pins s σ H Q I h => wpAny_Call_Name_kw (ld_glob I hg hm ?_ hdb)⟩
  refine PySem.W.callWith_S (h₀ := X.base) I.ok.mod.kin M.kp (thn (he.run pins s σ H _ I h) fun v s1 ⟨y, H1, I1, ry, a, xs, ey, hxs, q⟩ => ?_) hst
  subst ey
  obtain rfl : v = Value.ref a := ry
  exact StX.star_any I1 hxs fun us s2 I2 rv => ⟨I2.kIn, run_makeX M F hr hx I2 rv q⟩
/-- cls(*xs), cls a name that holds the class -/
theorem pe_makeVX {ty : TE} (M : Mk X.K C f) (F : FnR X.prog X.w X.K X.mg X.base (L2.CX X.prog X.w) k f sp) (hr : Room (k + 1) X.A) (hy : PE X (.Name x p) ty) (hx : Takes X W) (he : PE X e te)
    (hst : starEach [.Starred e sp_] X.env = [(true, eval e X.env)] := by rfl) : PE X (.Call (.Name x p) [.Starred e sp_] [] pos) (fun σ H Q => ty σ H fun c H0 => c = .ref C ∧ tMakeSX X.K C sp W te σ H0 Q) := by
  refine ⟨fun pins s σ H Q I h => wpAny_Call_Name_kw (thn (hy.run pins s σ H _ I h) fun v0 s0 ⟨c, H0, I0, rc, ec, h⟩ => ?_)⟩
  subst ec
  obtain rfl : v0 = Value.ref C := rc
  refine PySem.W.callWith_S (h₀ := X.base) I0.ok.mod.kin M.kp (thn (he.run pins s0 σ H0 _ I0 h) fun v s1 ⟨y, H1, I1, ry, a, xs, ey, hxs, q⟩ => ?_) hst
  subst ey
  obtain rfl : v = Value.ref a := ry
  exact StX.star_any I1 hxs fun us s2 I2 rv => ⟨I2.kIn, run_makeX M F hr hx I2 rv q⟩
end
end Ab

set_option Elab.async false
set_option linter.all false
set_option maxRecDepth 100000
set_option maxHeartbeats 4000000
/-! AbZ: defs under @property and @classmethod: where they stand, the head's hook for them, their readings. -/
namespace Ab
open PySem PySem.Spec PyProof.Rows L2
/-- the def behind a property or a classmethod -/
def gAd (K : PySem.W.Frag) (p : Str × Option Str) : Addr := match K.lookup (He.fAd K p) with
  | some ⟨_, _, .fields vs, _⟩ => (match (vs[0]? : Option Value) with
    | some (.ref g) => g
    | _ => 0)
  | _ => 0
def fnG (K : PySem.W.Frag) (p : Str × Option Str) : He.FnW := match K.lookup (gAd K p) with
  | some ⟨_, _, .func fd, _⟩ => some (fd.name, fd.qualname, fd.params, fd.body, fd.scope, fd.globals, fd.closure, fd.builtins)
  | _ => none
def okG (K : PySem.W.Frag) (d : He.DefD) : Bool := PySem.W.keepIn K (.ref (gAd K d.at_)) && (match K.lookup (gAd K d.at_) with
  | some ⟨_, _, .func fd, _⟩ => PySem.W.codeIn K fd.code d.qual && (He.dflB K fd.defaults (d.dvs K) && He.kwdB K fd.kwdefaults (d.kws K))
  | _ => false)
theorem funG {K : PySem.W.Frag} {d : He.DefD} (e : fnG K d.at_ = d.val) (c : okG K d = true) : ∃ fd, FunD K d.name d.qual d.params d.body d.scope (d.dvs K) (d.kws K) (gAd K d.at_) fd := by
  obtain ⟨kp, c2⟩ := He.ba c
  unfold fnG at e
  cases q : K.lookup (gAd K d.at_) with
  | none =>
    rw [q] at c2
    cases c2
  | some o =>
    obtain ⟨oc, od, dt, osl⟩ := o
    rw [q] at c2 e
    cases dt with
    | func fd =>
      obtain ⟨n1, n2, n3, n4, n5, n6, n7, n8, n9, n10, n11, n12, n13, n14, n15⟩ := fd
      have e2 : (some (n1, n2, n3, n4, n5, n6, n7, n15) : He.FnW) = some (d.name, d.qual, d.params, .stmts d.body, d.scope, mainGlobals, [], builtinsNs) := e
      simp only [Option.some.injEq, Prod.mk.injEq] at e2
      obtain ⟨h1, h2, h3, h4, h5, h6, h7, h8⟩ := e2
      subst h1 h2 h3 h4 h5 h6 h7 h8
      have c3 : (PySem.W.codeIn K n13 d.qual && (He.dflB K n8 (d.dvs K) && He.kwdB K n9 (d.kws K))) = true := c2
      obtain ⟨k1, k2⟩ := He.ba c3
      obtain ⟨k3, k4⟩ := He.ba k2
      exact ⟨_, ⟨oc, od, n8, n9, n10, n11, n12, n13, n14, osl, rfl, q, k1, He.dflB_ok k3, He.kwdB_ok k4⟩, kp⟩
    | _ => cases c2
def propB (K : PySem.W.Frag) (C : Addr) (f : Str) (g : Addr) : Bool := match PySem.W.findIn K (.ref C) f with
  | some (some (.ref p)) => PySem.W.specialIn K (.ref p) "__get__" == some (some (.builtin "property.__get__")) && (PySem.W.takesIn K (.ref p) == some true && (match PySem.W.recIn K p "property" with
    | some (.ref g' :: _) => g' == g
    | _ => false))
  | _ => false
theorem propB_ok {K : PySem.W.Frag} {C : Addr} {f : Str} {g : Addr} (h : propB K C f g = true) : ∃ p, PropOf K C f p g := by
  unfold propB at h
  split at h
  · rename_i p hp
    obtain ⟨h1, h⟩ := He.ba h
    obtain ⟨h2, h⟩ := He.ba h
    split at h
    · rename_i g' rest hr
      have e : g' = g := beq_iff_eq.mp h
      subst e
      exact ⟨p, hp, beq_iff_eq.mp h1, beq_iff_eq.mp h2, rest, hr⟩
    · cases h
  · cases h
def cmetB (K : PySem.W.Frag) (C : Addr) (m : Str) (g : Addr) : Bool := match PySem.W.findCls K (.ref C) (.type "type") m with
  | some (.get (.builtin b) (.ref p) .none (.ref C')) => b == "classmethod.__get__" && (C' == C && (PySem.W.fnIn K g && (match PySem.W.recIn K p "classmethod" with
    | some (.ref g' :: _) => g' == g
    | _ => false)))
  | _ => false
theorem cmetB_ok {K : PySem.W.Frag} {C : Addr} {m : Str} {g : Addr} (h : cmetB K C m g = true) : ∃ p, ClX.CMet K C (.type "type") m p g := by
  unfold cmetB at h
  split at h
  · rename_i b p C' hp
    obtain ⟨h1, k1⟩ := He.ba h
    obtain ⟨h2, k2⟩ := He.ba k1
    obtain ⟨h3, k3⟩ := He.ba k2
    have e1 : b = "classmethod.__get__" := beq_iff_eq.mp h1
    have e2 : C' = C := beq_iff_eq.mp h2
    subst e1 e2
    clear h k1 k2
    split at k3
    · rename_i g' rest hr
      have e : g' = g := beq_iff_eq.mp k3
      subst e
      exact ⟨p, hp, ⟨rest, hr⟩, h3⟩
    · cases k3
  · cases h
abbrev AlZ : Type := AlY × List He.FnW
def obsZG (n : Nat) (fa : List He.Fa) (fn xn zn : List He.DefD) (ex : PySem.W.Frag → Bool) (g : Addr → Option Obj) : AlZ :=
  (fun K => ((((He.obsD fa fn K, ex K) : AlX), xn.map fun d => fnZ K d.at_), zn.map fun d => fnG K d.at_)) (He.frG g (He.asD g n ++ [cStatics]))
def hookZ (n : Nat) (fa : List He.Fa) (fn xn zn : List He.DefD) (ex : PySem.W.Frag → Bool) : PySem.W.Hook where
  α := AlZ
  obs := fun s => obsZG n fa fn xn zn ex s.heap.get?
  val := fun _ => (((He.valD fn, true), xn.map valZ), zn.map He.DefD.val)
  says := fun _ h => ∃ K : PySem.W.Frag, K.In h ∧ Says fa fn ex K ∧ xn.map (fun d => fnZ K d.at_) = xn.map valZ ∧ zn.map (fun d => fnG K d.at_) = zn.map He.DefD.val
  of := fun _ _ e => ⟨_, He.frG_in, ⟨congrArg (fun z : AlZ => z.1.1.1) e, congrArg (fun z : AlZ => z.1.1.2) e⟩, congrArg (fun z : AlZ => z.1.2) e, congrArg (fun z : AlZ => z.2) e⟩
  keeps := fun _ _ _ ⟨K, hK, c⟩ k => ⟨K, PySem.W.Frag.In.keeps hK k, c⟩
theorem obsZG_eq {n : Nat} {fa : List He.Fa} {fn xn zn : List He.DefD} {ex : PySem.W.Frag → Bool} {g : Addr → Option Obj} {s : Shared} (h : ∀ a, g a = s.heap.get? a) : obsZG n fa fn xn zn ex g = (hookZ n fa fn xn zn ex).obs s := by
  have e : g = s.heap.get? := funext h
  rw [e]
  rfl
/-- the text of a program with own exceptions and defs under decorators -/
structure TxZ (P : Program) (fa : List He.Fa) (fn xn zn : List He.DefD) (ex : PySem.W.Frag → Bool) (K : PySem.W.Frag) (mg : Str → Option Value) : Prop extends TxX P fa fn xn ex K mg where
  zf : zn.map (fun d => fnG K d.at_) = zn.map He.DefD.val
theorem TxZ.zfn {P : Program} {fa : List He.Fa} {fn xn zn : List He.DefD} {ex : PySem.W.Frag → Bool} {K : PySem.W.Frag} {mg : Str → Option Value} (T : TxZ P fa fn xn zn ex K mg) (i : Nat) {d : He.DefD} (c : okG K d = true) (h : zn[i]? = some d := by rfl) :
    ∃ fd, FunD K d.name d.qual d.params d.body d.scope (d.dvs K) (d.kws K) (gAd K d.at_) fd := by
  have e2 : (zn.map fun d => fnG K d.at_)[i]? = (zn.map He.DefD.val)[i]? := by rw [T.zf]
  rw [List.getElem?_map, List.getElem?_map, h] at e2
  exact funG (Option.some.inj e2) c
/-! ### classmethods that raise -/
section
variable {X : Cx} {k : Nat} {C p g : Addr} {mc : Value} {sp : Sp} {W : WX} {o e : Expr} {es : List Expr} {f m : Str} {pos apos : Pos} {ta : TE} {t : TA} {pl : Sem Bool} {fd : FuncData} {ps : List Str} {n : Nat} {b : Bool}
def tCMethX (C : Addr) (n : Nat) (sp : Sp) (W : WX) (ta : TE) (t : TA) : TE := fun σ H Q => ta σ H fun x H1 => x = .ref C ∧ t σ H1 fun vs H2 => vs.length = n ∧ sp (.ref C :: vs) H2 Q (fun cls d H' => W cls d σ H')
theorem pe_cmethX (he : PE X o ta) (r : ClX.CRead X.K C mc) (c : ClX.CMet X.K C mc m p g) (F : Fq b X.prog X.w X.K X.mg X.base (L2.CX X.prog X.w) k g fd ps sp) (hb : Bw X.K fd ps (n + 1) [] gPos) (hg : Gd b X.A) (hr : Room k X.A) (hx : Takes X W) (ha : PA X (e :: es) t)
    (hst : starEach (e :: es) X.env = (false, eval e X.env) :: starEach es X.env := by rfl) (hpl : (backTo pos (starEach es X.env)).any (·.1) = false := by rfl)
    (ht : eval (.Call (.Attribute o m apos) (e :: es) [] pos) X.env = (do
      let ov ← eval o X.env
      standAt apos.atName
      let (f, first) ← holding [ov] (getMethod ov m pl)
      callWith pos f first (backTo pos (starEach (e :: es) X.env)) (backToKw pos (keywordEach [] X.env))) := by rfl) :
    PE X (.Call (.Attribute o m apos) (e :: es) [] pos) (tCMethX C n sp W ta t) := by
  refine ⟨fun pins s σ H Q I h => ?_⟩
  refine PySem.W.methodCall_KW (pl := pl) (thn (he.run pins s σ H _ I h) fun u s1 ⟨x, H1, I1, rx, ex, q⟩ => ?_) ht
  subst ex
  obtain rfl : u = Value.ref C := rx
  refine ClX.getmethcm_ok I1 r c fun s2 I2 => ?_
  refine ClX.callwith_cm I2 (ClX.base_none I1 (Nat.le_refl _)) c.fi (thn (ha.run pos _ s2 σ H1 _ I2 q) fun us s3 ⟨vs, H2, I3, rv, l, q2⟩ => ⟨⟨ClX.pin_at I3, I3.kIn⟩, ?_⟩) hst hpl
  obtain ⟨zs, hB, hV⟩ := hb s3 (.ref C :: us) [] I3.kIn (by rw [List.length_cons, ← rv.length, l]) rfl
  refine thn (wpAny_call (PySem.W.method_call (ClX.pin_at I3) (run_fx F hg hr hB hx I3 (hV (.ref C :: vs) [] (.cons rfl rv) .nil) q2))) fun _ _ y => ClX.unpinE y
end
end Ab

set_option Elab.async false
set_option linter.all false
set_option maxRecDepth 100000
set_option maxHeartbeats 4000000
/-! AbH: try with several clauses `except C as n`. -/
namespace Ab
open PySem PySem.Spec PyProof.Rows L2
def wAsL (K : PySem.W.Frag) (i : Nat) (Wout : WX) (D : Ends) : List (Value × (Addr → Value → Option Addr → TS)) → WX
  | [] => Wout
  | (c, ts) :: l => wAs K c i ts (wAsL K i Wout D l) D
inductive HdsA (X : Cx) (n : Str) : List ExceptHandler → List (Value × (Addr → Value → Option Addr → TS)) → Prop
  | nil : HdsA X n [] []
  | cons {x : Str} {c : Value} {ts : Addr → Value → Option Addr → TS} {b₀ : Stmt} {suite : List Stmt} {np pos' : Pos} {hds : List ExceptHandler} {l : List (Value × (Addr → Value → Option Addr → TS))} (hc : Names X x c)
      (hsu : ∀ (a : Addr) (oe : Obj) (cls : Value) (d : Option Addr) (pn : List (Addr × Obj)), Zc cls d oe → (∃ vs, oe.data = .fields vs) → PSs (X.suite a ((a, oe) :: pn)) (b₀ :: suite) (ts a cls d)) (r : HdsA X n hds l) :
      HdsA X n (.ExceptHandler (some (.Name x np)) (some n) (b₀ :: suite) pos' :: hds) ((c, ts) :: l)
section
variable {X : Cx} {n : Str} {i : Nat} {body : List Stmt} {h₀ : ExceptHandler} {hds : List ExceptHandler} {l : List (Value × (Addr → Value → Option Addr → TS))} {pos : Pos} {tb : WX → TS} {Wout : WX}
theorem ps_try_asL (hs : X.stack = X.env :: X.outer) (hf : X.env.frame = some X.env.locals) (hN : X.N.Nodup) (hi : X.N[i]? = some n) (hln : X.env.kindOf n = some .local) (tk : Takes X Wout)
    (hb : ∀ (W : WX) (pn : List (Addr × Obj)) (xe : Value → Shared → Prop), Takes (X.tr pn xe) W → PassesOwn (model X.prog X.w) X.A X.env xe → PSs (X.tr pn xe) body (tb W))
    (hh : HdsA X n (h₀ :: hds) l) : PS X (.Try body (h₀ :: hds) [] [] pos) (fun D σ H => tb (wAsL X.K i Wout D l) D σ H) := by
  refine ⟨fun pins s σ H D I h => ?_⟩
  have ok := I.ok
  have hfr : X.A.frames = some (X.env :: X.outer) := by rw [ok.frames, hs]
  have hloc : Loc X.env.scope n := .inl hln
  refine wpAny_Try_except ?_
  refine wpAny_mono ((hb (wAsL X.K i Wout D l) (X.pn ++ pins) (fun e s₁ => wpAny (model X.prog X.w) X.A (noteFrame e X.env) (fun _ s₂ => wpAny (model X.prog X.w) X.A (setFlight e none) (fun _ s₃ =>
    wpAny (model X.prog X.w) X.A (handleBy e X.env (h₀ :: hds)) (SP X pins D) X.xe s₃) X.xe s₂) X.xe s₁) (fun u s' xx => ?_) PassesOwn.looking).run [] s σ H D (I.toTry _) h) (fun f s1 hsp => ?_) (fun e s1 he => he)
  · obtain ⟨a, B, sI, pins', σ', H', cls, d, rfl, J', nb, up, sky, na, os, ag, w⟩ := xx
    have J : Inv X pins σ' H' sI := J'.ofTry ok
    have sky' : Sky B (X.env :: X.outer) a (Zc cls d) X.env.locals s'.heap := by rw [← hs]; exact sky
    show wpAny (model X.prog X.w) X.A (noteFrame (.ref a) X.env) _ _ _
    refine Sky.land Zc.steady hfr hf sky' fun h3 fl3 up3 => ?_
    have J3 : Inv X pins σ' H' { s' with heap := h3 } := J.landed nb fl3.1 (up.trans up3) os ag
    obtain ⟨oe3, vs3, he3, hz3, hd3⟩ := fl3.there
    have notFr : ∀ {h : Heap} {o : Obj} {vs : Array Value}, h.FunFrames B (X.env :: X.outer) → h.get? a = some o → o.data = .fields vs → a ∉ frs (X.env :: X.outer) := fun {h o vs} ff e dd hm => by
      obtain ⟨_, o', e', hnf⟩ := ff.mem hm
      rw [e] at e'; cases e'
      exact hnf _ dd
    have nfr := notFr fl3.2.2.1 he3 hd3
    have nL : a ≠ X.env.locals := fun z => nfr (List.mem_filterMap.mpr ⟨X.env, List.mem_cons_self, by rw [hf, z]⟩)
    have nF : a ∉ X.fs := fun hm => by
      obtain ⟨e, he, q⟩ := List.mem_filterMap.mp hm
      exact nfr (List.mem_filterMap.mpr ⟨e, List.mem_cons_of_mem _ he, q⟩)
    have S3 := J3.suite he3 hd3 na nL nF
    have go : ∀ {hds' : List ExceptHandler} {l' : List (Value × (Addr → Value → Option Addr → TS))}, HdsA X n hds' l' → wAsL X.K i Wout D l' cls d σ' H' →
        wpAny (model X.prog X.w) X.A (handleBy (.ref a) X.env hds') (SP X pins D) X.xe { s' with heap := h3 } := by
      intro hds' l' hk
      induction hk with
      | nil =>
        intro w
        refine wpAny_handleBy_nil ?_
        obtain ⟨k1, k2, k3, oe, vs, T, oT, ts', he, hz, hd, h1, hr⟩ := id fl3
        unfold PySem.passOn
        refine wpAny_bind (wpAny_field he hd h1 ?_)
        rw [if_neg (show ¬ ((Value.ref T == Value.none) = true) from by simp)]
        have fin : wpAny (model X.prog X.w) X.A (setFlight (.ref a) X.env.frame) (fun _ s4 => wpAny (model X.prog X.w) X.A (throw (.ref a) : Sem Flow) (SP X pins D) X.xe s4) X.xe { s' with heap := h3 } := by
          rw [hf]
          refine HandSPX.setFlight_upZ fl3 fun h4 hh4 up4 => wpAny_throw (tk _ _ ?_)
          exact ⟨a, B, sI, pins, σ', H', cls, d, rfl, J, nb, (up.trans up3).trans up4, .inr (.inr (by rw [hs]; exact hh4)), na, os, ag, w⟩
        first
          | exact wpAny_bind (wpAny_pure (wpAny_bind fin))
          | exact wpAny_bind fin
      | @cons x c ts b₀ suite np pos' hds2 l2 hc hsu r ih =>
        intro w
        obtain ⟨b, hb1, hyes, hno⟩ := w
        refine wpAny_handleBy_cons (codeAny_handlers_test ?_) (by intro q; cases q)
        have LT : PySem.W.Looks (model X.prog X.w) h3 (typeOf (.ref a)) cls := fun A Q E s k q => wpAny_typeOf_ref (k _ _ he3) (by rw [hz3.1]; exact q)
        have LM := PySem.W.exm_one (M := model X.prog X.w) (J3.kIn) LT hb1
        have test : ∀ {Q : Value → Shared → Prop} {E : Value → Shared → Prop}, Q c { s' with heap := h3 } → wpAny (model X.prog X.w) (X.A.mark (some (.ref a))) (eval (.Name x np) X.env) Q E { s' with heap := h3 } := fun {Q E} q => by
          obtain ⟨hg, hdbg, hm | ⟨hm, hv, hnn⟩⟩ := hc
          · exact ld_glob (X := X.suite a ((a, oe3) :: (X.pn ++ pins))) S3 hg hm q hdbg
          · exact ld_blt (X := X.suite a ((a, oe3) :: (X.pn ++ pins))) S3 hg hm hv q hnn hdbg
        refine test (LM.here ?_)
        cases b with
        | true =>
          refine codeAny_handlers_suite_as ?_
          refine HandSPX.lands_againZ fl3 fun h4 fl4 up4 => ?_
          have J4 : Inv X pins σ' H' { s' with heap := h4 } := J.landed nb fl4.1 ((up.trans up3).trans up4) os ag
          obtain ⟨oe4, vs4, he4, hz4, hd4⟩ := fl4.there
          have S4 := J4.suite he4 hd4 na nL nF
          refine store_ok (X := X.suite a ((a, oe4) :: (X.pn ++ pins))) (v := .ref a) S4 hN hi hloc rfl (fun s5 S5 => ?_) (.inr hln)
          refine wpAny_mono ((hsu a oe4 cls d (X.pn ++ pins) hz4 ⟨_, hd4⟩).run [] s5 _ H' _ S5 (hyes rfl a na)) (fun f s6 hsp => ?_) (fun _ _ z => False.elim z)
          have end_ : ∀ {σ6 : L2.St} {H6 : Hp} {Q : Shared → Prop}, Inv (X.suite a ((a, oe4) :: (X.pn ++ pins))) [] σ6 H6 s6 → (∀ s7, Inv X pins (σ6.set i none) H6 s7 → Q s7) →
              wpAny (model X.prog X.w) X.A (do bindName X.env n .none; unbindBehindTheSuite X.env n pos') (fun _ s7 => Q s7) X.xe s6 := fun {σ6 H6 Q} S6 hq => gone_ok (S6.unsuite ok) hN hi hln hq
          cases f with
          | ret u =>
            obtain ⟨v6, σ6, H6, S6, r6, q6⟩ := hsp
            exact end_ S6 fun s7 J7 => ⟨_, _, _, J7, r6, q6⟩
          | _ =>
            obtain ⟨σ6, H6, S6, q6⟩ := hsp
            exact end_ S6 fun s7 J7 => ⟨_, _, J7, q6⟩
        | false =>
          show wpAny _ X.A (handleBy (.ref a) X.env hds2) _ _ _
          exact ih (hno rfl)
    exact go hh w
  · cases f with
    | next =>
      obtain ⟨σ', H', J', q⟩ := hsp
      exact wpAny_execs_nil ⟨σ', H', J'.ofTry ok, q⟩
    | ret u =>
      obtain ⟨v, σ', H', J', r, q⟩ := hsp
      exact ⟨v, σ', H', J'.ofTry ok, r, q⟩
    | _ =>
      obtain ⟨σ', H', J', q⟩ := hsp
      exact ⟨σ', H', J'.ofTry ok, q⟩
end
end Ab

set_option Elab.async false
set_option linter.all false
set_option maxRecDepth 100000
set_option maxHeartbeats 4000000
/-! AbL: plain matter of labels: the sorted texts of a list, each once. -/
namespace Ab
open PySem PySem.Spec PyProof.Rows L2
theorem str_ext {a b : Str} (h : a.cps.toList = b.cps.toList) : a = b := by
  cases a
  cases b
  simp only at h
  congr 1
  exact Array.toList_inj.mp h
def sle (a b : Str) : Prop := ltCps b.cps.toList a.cps.toList = false
theorem sle_iff {a b : Str} : sle a b ↔ ¬ (b.cps.toList < a.cps.toList) := by
  unfold sle
  rw [ltCps_eq]
  simp
theorem sle_trans {a b c : Str} (h1 : sle a b) (h2 : sle b c) : sle a c := by
  rw [sle_iff] at *
  exact fun h => by
    by_cases q : c.cps.toList < b.cps.toList
    · exact h2 q
    · exact h1 (List.lt_of_le_of_lt (show b.cps.toList ≤ c.cps.toList from q) h)
theorem sle_anti {a b : Str} (h1 : sle a b) (h2 : sle b a) : a = b := by
  rw [sle_iff] at *
  exact str_ext (List.le_antisymm h2 h1).symm
theorem sle_total (a b : Str) : sle a b ∨ sle b a := by
  rw [sle_iff, sle_iff]
  by_cases h : b.cps.toList < a.cps.toList
  · exact .inr (List.lt_asymm h)
  · exact .inl h
theorem rising_le : ∀ (l : List Str) (p : Str), risingS p l = true → ∀ y ∈ l, sle p y
  | [], _, _, y, hy => absurd hy (by simp)
  | x :: r, p, h, y, hy => by
    have h' : (!ltCps x.cps.toList p.cps.toList && risingS x r) = true := h
    obtain ⟨h1, h2⟩ := Bool.and_eq_true_iff.mp h'
    have h3 : sle p x := by simpa [sle] using h1
    rcases List.mem_cons.mp hy with rfl | hy
    · exact h3
    · exact sle_trans h3 (rising_le r x h2 y hy)
theorem sortedS_cons {x : Str} {r : List Str} (h : sortedS (x :: r) = true) : (∀ y ∈ r, sle x y) ∧ sortedS r = true := by
  have h' : risingS x r = true := h
  refine ⟨rising_le r x h', ?_⟩
  cases r with
  | nil => rfl
  | cons y r =>
    have h2 : (!ltCps y.cps.toList x.cps.toList && risingS y r) = true := h'
    exact (Bool.and_eq_true_iff.mp h2).2
/-- sorted lists without twice with the same members are one -/
theorem sorted_uniq : ∀ (l m : List Str), sortedS l = true → sortedS m = true → l.Nodup → m.Nodup → (∀ k, k ∈ l ↔ k ∈ m) → l = m
  | [], m, _, _, _, _, h => by
    cases m with
    | nil => rfl
    | cons y m => exact absurd ((h y).mpr List.mem_cons_self) (by simp)
  | x :: l, [], _, _, _, _, h => absurd ((h x).mp List.mem_cons_self) (by simp)
  | x :: l, y :: m, s1, s2, n1, n2, h => by
    obtain ⟨a1, b1⟩ := sortedS_cons s1
    obtain ⟨a2, b2⟩ := sortedS_cons s2
    obtain ⟨c1, d1⟩ := List.nodup_cons.mp n1
    obtain ⟨c2, d2⟩ := List.nodup_cons.mp n2
    have e : x = y := by
      rcases List.mem_cons.mp ((h x).mp List.mem_cons_self) with q | q
      · exact q
      · rcases List.mem_cons.mp ((h y).mpr List.mem_cons_self) with q' | q'
        · exact q'.symm
        · exact sle_anti (a1 y q') (a2 x q)
    subst e
    refine congrArg (x :: ·) (sorted_uniq l m b1 b2 d1 d2 fun k => ⟨fun hk => ?_, fun hk => ?_⟩)
    · rcases List.mem_cons.mp ((h k).mp (List.mem_cons_of_mem _ hk)) with q | q
      · exact absurd (q ▸ hk) c1
      · exact q
    · rcases List.mem_cons.mp ((h k).mpr (List.mem_cons_of_mem _ hk)) with q | q
      · exact absurd (q ▸ hk) c2
      · exact q
/-- put in its place -/
def insS (z : Str) : List Str → List Str
  | [] => [z]
  | y :: r => if ltCps z.cps.toList y.cps.toList = true then z :: y :: r else if z = y then y :: r else y :: insS z r
/-- sorted, each once -/
def srt (zs : List Str) : List Str := zs.foldr insS []
theorem mem_ins {z k : Str} : ∀ {l : List Str}, k ∈ insS z l ↔ k = z ∨ k ∈ l
  | [] => by simp [insS]
  | y :: r => by
    unfold insS
    split
    · simp
    · split
      · rename_i h
        subst h
        simp
      · rw [List.mem_cons, mem_ins, List.mem_cons]
        constructor
        · rintro (h | h | h)
          · exact .inr (.inl h)
          · exact .inl h
          · exact .inr (.inr h)
        · rintro (h | h | h)
          · exact .inr (.inl h)
          · exact .inl h
          · exact .inr (.inr h)
theorem mem_srt {zs : List Str} {k : Str} : k ∈ srt zs ↔ k ∈ zs := by
  unfold srt
  induction zs with
  | nil => simp
  | cons z zs ih => rw [List.foldr_cons, mem_ins, ih, List.mem_cons]
def slt (a b : Str) : Prop := ltCps a.cps.toList b.cps.toList = true
theorem slt_le {a b : Str} (h : slt a b) : sle a b := by
  unfold slt at h
  rw [ltCps_eq, decide_eq_true_eq] at h
  rw [sle_iff]
  exact List.lt_asymm h
theorem slt_ne {a b : Str} (h : slt a b) : a ≠ b := by
  rintro rfl
  unfold slt at h
  rw [ltCps_eq, decide_eq_true_eq] at h
  exact List.lt_irrefl _ h
theorem slt_of {a b : Str} (h1 : sle a b) (h2 : a ≠ b) : slt a b := by
  cases h : ltCps a.cps.toList b.cps.toList with
  | true => exact h
  | false => exact absurd (sle_anti h1 h) h2
theorem slt_trans {a b c : Str} (h1 : slt a b) (h2 : slt b c) : slt a c :=
  slt_of (sle_trans (slt_le h1) (slt_le h2)) (by
    rintro rfl
    exact slt_ne h1 (sle_anti (slt_le h1) (slt_le h2)))
theorem ins_pw {z : Str} : ∀ {l : List Str}, l.Pairwise slt → (insS z l).Pairwise slt
  | [], _ => by simp [insS]
  | y :: r, h => by
    obtain ⟨h1, h2⟩ := List.pairwise_cons.mp h
    unfold insS
    split
    · rename_i q
      exact List.pairwise_cons.mpr ⟨fun k hk => by
        rcases List.mem_cons.mp hk with rfl | hk
        · exact q
        · exact slt_trans q (h1 k hk), h⟩
    · rename_i q
      split
      · exact h
      · rename_i n
        have q' : sle y z := by simpa [sle] using q
        refine List.pairwise_cons.mpr ⟨fun k hk => ?_, ins_pw h2⟩
        rcases mem_ins.mp hk with rfl | hk
        · exact slt_of q' (Ne.symm n)
        · exact h1 k hk
theorem srt_pw (zs : List Str) : (srt zs).Pairwise slt := by
  unfold srt
  induction zs with
  | nil => exact List.Pairwise.nil
  | cons z zs ih => exact ins_pw ih
theorem srt_sorted (zs : List Str) : sortedS (srt zs) = true := sortedS_of_pairwise _ ((srt_pw zs).imp fun h => slt_le h)
theorem srt_nodup (zs : List Str) : (srt zs).Nodup := (srt_pw zs).imp fun h => slt_ne h
theorem srt_eq {zs ys : List Str} (h1 : sortedS ys = true) (h2 : ys.Nodup) (h3 : ∀ k, k ∈ ys ↔ k ∈ zs) : ys = srt zs :=
  sorted_uniq _ _ h1 (srt_sorted zs) h2 (srt_nodup zs) fun k => (h3 k).trans mem_srt.symm
theorem srt_congr {zs ys : List Str} (h : ∀ k, k ∈ ys ↔ k ∈ zs) : srt ys = srt zs := srt_eq (srt_sorted _) (srt_nodup _) fun k => mem_srt.trans (h k)
end Ab

set_option Elab.async false
set_option linter.all false
set_option maxRecDepth 100000
set_option maxHeartbeats 4000000
/-! AbK: == and != of tuples, one of them empty. -/
namespace Ab
open PySem PySem.Spec PyProof.Rows L2
def rEqT (K : PySem.W.Frag) (neg : Bool) : R2 := fun x y H Q => ∃ a b xs ys, x = .ref a ∧ y = .ref b ∧ SqT K H a xs ∧ SqT K H b ys ∧ (xs = [] ∨ ys = []) ∧ Q (.bl (if neg then !decide (xs.length = ys.length) else decide (xs.length = ys.length))) H
section
variable {X : Cx}
theorem op_eqT (neg : Bool) (hu : X.A.units + 64 < cLine) : OpR X (compareOp (if neg then .NotEq else .Eq)) (rEqT X.K neg) := by
  intro pins s σ H x y v u Q I rx ry h
  obtain ⟨a, b, xs, ys, rfl, rfl, ha, hb, h0, q⟩ := h
  cases (show v = Value.ref a from rx)
  cases (show u = Value.ref b from ry)
  obtain ⟨us, r1, p1, _⟩ := I.tuple ha
  obtain ⟨ws, r2, p2, _⟩ := I.tuple hb
  have l1 : us.toArray.size = xs.length := by rw [List.size_toArray, ← r1.length]
  have l2 : ws.toArray.size = ys.length := by rw [List.size_toArray, ← r2.length]
  have m0 : min us.toArray.size ws.toArray.size = 0 := by
    rw [l1, l2]
    rcases h0 with rfl | rfl <;> simp
  have he : ∀ j (h1 : j < us.toArray.size) (h2 : j < ws.toArray.size), SeqAt.EqAt X.A.in1 s us.toArray[j] ws.toArray[j] ((fun _ => true) j) := fun j h1 h2 => absurd (Nat.lt_min.mpr ⟨h1, h2⟩) (by rw [m0]; exact Nat.not_lt_zero _)
  have e : (us.toArray.size == ws.toArray.size) = decide (xs.length = ys.length) := by rw [l1, l2]; rfl
  cases neg with
  | false =>
    have k1 := SeqAt.RcAt.tuples (A := X.A) (e := fun _ => true) p1 p2 (by omega) he
    rw [all_true, Bool.true_and, e] at k1
    exact k1 _ _ _ _ ⟨.bl _, H, I, rfl, q⟩
  | true =>
    have k1 := SeqAt.RcNeAt.tuples (A := X.A) (e := fun _ => true) p1 p2 (by omega) he
    rw [all_true, Bool.true_and, e] at k1
    exact k1 _ _ _ _ ⟨.bl _, H, I, rfl, q⟩
end
end Ab
namespace Ab
open PySem PySem.Spec PyProof.Rows L2
/-- two lists, or two tuples, of texts -/
def rEqS (K : PySem.W.Frag) (neg : Bool) : R2 := fun x y H Q => ∃ (a b : Addr) (xs ys : List Str), x = .ref a ∧ y = .ref b ∧ ((SqL K H a (xs.map V.str) ∧ SqL K H b (ys.map V.str)) ∨ (SqT K H a (xs.map V.str) ∧ SqT K H b (ys.map V.str))) ∧ Q (.bl (if neg then !decide (xs = ys) else decide (xs = ys))) H
theorem all_eq : ∀ (xs ys : List Str), xs.length = ys.length → ((List.range xs.length).all fun j => decide (xs.getD j Str.empty = ys.getD j Str.empty)) = decide (xs = ys) := by
  intro xs ys hl
  by_cases h : xs = ys
  · subst h
    rw [decide_eq_true rfl, List.all_eq_true]
    intro j _
    exact decide_eq_true rfl
  · rw [decide_eq_false h]
    cases q : (List.range xs.length).all fun j => decide (xs.getD j Str.empty = ys.getD j Str.empty) with
    | false => rfl
    | true =>
      refine absurd ?_ h
      apply List.ext_getElem hl
      intro j h1 h2
      have := of_decide_eq_true (List.all_eq_true.mp q j (List.mem_range.mpr h1))
      simpa [List.getD_eq_getElem?_getD, h1, h2] using this
section
variable {X : Cx} {pins : List (Addr × Obj)} {σ : L2.St} {H : Hp} {s : Shared}
theorem strs_eqAt {A : Around} {xs ys : List Str} {us ws : List Value} (r1 : Vals (xs.map V.str) us) (r2 : Vals (ys.map V.str) ws) (j : Nat) (h1 : j < us.length) (h2 : j < ws.length) :
    SeqAt.EqAt A s us[j] ws[j] (decide (xs.getD j Str.empty = ys.getD j Str.empty)) := by
  have e1 : j < xs.length := by rw [← List.length_map (f := V.str), r1.length]; exact h1
  have e2 : j < ys.length := by rw [← List.length_map (f := V.str), r2.length]; exact h2
  obtain ⟨u, hu, t, hu'⟩ := r1.get (i := j) (x := .str xs[j]) (by simp [e1])
  obtain ⟨v, hv, t2, hv'⟩ := r2.get (i := j) (x := .str ys[j]) (by simp [e2])
  have q1 : us[j] = u := (List.getElem?_eq_some_iff.mp hu).2
  have q2 : ws[j] = v := (List.getElem?_eq_some_iff.mp hv).2
  rw [q1, q2, hu', hv']
  have e : decide (xs.getD j Str.empty = ys.getD j Str.empty) = (xs[j] == ys[j]) := by
    have g1 : xs.getD j Str.empty = xs[j] := by rw [List.getD_eq_getElem?_getD, List.getElem?_eq_getElem e1]; rfl
    have g2 : ys.getD j Str.empty = ys[j] := by rw [List.getD_eq_getElem?_getD, List.getElem?_eq_getElem e2]; rfl
    rw [g1, g2]
    by_cases q : xs[j] = ys[j]
    · rw [decide_eq_true q, q, beq_self_eq_true]
    · rw [decide_eq_false q, beq_false_of_ne q]
  rw [e]
  exact SeqAt.EqAt.str_str _ _ _ _
theorem op_eqS (neg : Bool) (hu : X.A.units + 64 < cLine) : OpR X (compareOp (if neg then .NotEq else .Eq)) (rEqS X.K neg) := by
  intro pins s σ H x y v u Q I rx ry h
  obtain ⟨a, b, xs, ys, rfl, rfl, h, q⟩ := h
  cases (show v = Value.ref a from rx)
  cases (show u = Value.ref b from ry)
  rcases h with ⟨ha, hb⟩ | ⟨ha, hb⟩
  · obtain ⟨us, r1, p1, _⟩ := I.list ha
    obtain ⟨ws, r2, p2, _⟩ := I.list hb
    have l1 : us.toArray.size = xs.length := by rw [List.size_toArray, ← r1.length, List.length_map]
    have l2 : ws.toArray.size = ys.length := by rw [List.size_toArray, ← r2.length, List.length_map]
    by_cases hl : xs.length = ys.length
    · have he : ∀ j (h1 : j < us.toArray.size) (h2 : j < ws.toArray.size), SeqAt.EqAt X.A.in1 s us.toArray[j] ws.toArray[j] ((fun j => decide (xs.getD j Str.empty = ys.getD j Str.empty)) j) := fun j h1 h2 => by
        simpa using strs_eqAt r1 r2 j (by simpa using h1) (by simpa using h2)
      cases neg with
      | false =>
        have k1 := SeqAt.RcAt.lists (A := X.A) (e := fun j => decide (xs.getD j Str.empty = ys.getD j Str.empty)) p1.isList p2.isList (by rw [l1, l2, hl]) (by omega) he
        rw [l1, all_eq xs ys hl] at k1
        exact k1 _ _ _ _ ⟨.bl _, H, I, rfl, q⟩
      | true =>
        have k1 := SeqAt.RcNeAt.lists (A := X.A) (e := fun j => decide (xs.getD j Str.empty = ys.getD j Str.empty)) p1.isList p2.isList (by rw [l1, l2, hl]) (by omega) he
        rw [l1, all_eq xs ys hl] at k1
        exact k1 _ _ _ _ ⟨.bl _, H, I, rfl, q⟩
    · have hn : xs ≠ ys := fun e => hl (by rw [e])
      have hs : (us.toArray.size != ws.toArray.size) = true := by rw [l1, l2]; simpa using hl
      rw [decide_eq_false hn] at q
      cases neg with
      | false => exact SeqAt.RcAt.lists_lengths p1.isList p2.isList hs (by omega) _ _ _ _ ⟨.bl false, H, I, rfl, q⟩
      | true => exact SeqAt.RcNeAt.lists_lengths p1.isList p2.isList hs (by omega) _ _ _ _ ⟨.bl true, H, I, rfl, q⟩
  · obtain ⟨us, r1, p1, _⟩ := I.tuple ha
    obtain ⟨ws, r2, p2, _⟩ := I.tuple hb
    have l1 : us.toArray.size = xs.length := by rw [List.size_toArray, ← r1.length, List.length_map]
    have l2 : ws.toArray.size = ys.length := by rw [List.size_toArray, ← r2.length, List.length_map]
    have he : ∀ j (h1 : j < us.toArray.size) (h2 : j < ws.toArray.size), SeqAt.EqAt X.A.in1 s us.toArray[j] ws.toArray[j] ((fun j => decide (xs.getD j Str.empty = ys.getD j Str.empty)) j) := fun j h1 h2 => by
      simpa using strs_eqAt r1 r2 j (by simpa using h1) (by simpa using h2)
    have e : ((List.range (min us.toArray.size ws.toArray.size)).all (fun j => decide (xs.getD j Str.empty = ys.getD j Str.empty)) && us.toArray.size == ws.toArray.size) = decide (xs = ys) := by
      rw [l1, l2]
      by_cases hl : xs.length = ys.length
      · rw [hl, beq_self_eq_true, Bool.and_true, Nat.min_self, ← hl]
        exact all_eq xs ys hl
      · rw [beq_false_of_ne hl, Bool.and_false]
        exact (decide_eq_false fun e => hl (by rw [e])).symm
    cases neg with
    | false =>
      have k1 := SeqAt.RcAt.tuples (A := X.A) p1 p2 (by omega) he
      rw [e] at k1
      exact k1 _ _ _ _ ⟨.bl _, H, I, rfl, q⟩
    | true =>
      have k1 := SeqAt.RcNeAt.tuples (A := X.A) p1 p2 (by omega) he
      rw [e] at k1
      exact k1 _ _ _ _ ⟨.bl _, H, I, rfl, q⟩
end
end Ab

set_option Elab.async false
set_option linter.all false
set_option maxRecDepth 100000
set_option maxHeartbeats 4000000
/-! DxA: readings without a heap: data D, what stands for them, the state of a body as data. -/
namespace Ab
open PySem PySem.Spec PyProof.Rows L2
/-- data -/
inductive D where
  | non | bl (b : Bool) | int (i : Int) | str (z : Str) | lst (l : List D) | tup (l : List D) | dict (l : List (Key × D)) | obj (C : Str) (fs : List (Str × D)) | ty (n : String) | cls (C : Str) | rng
mutual
/-- v stands for d, by what is frozen in G; r: the drawn numbers' list -/
inductive Rep (K : PySem.W.Frag) (r : Option Addr) (G : Hp) : V → D → Prop
  | non : Rep K r G .non .non
  | bl (b : Bool) : Rep K r G (.bl b) (.bl b)
  | int (i : Int) : Rep K r G (.int i) (.int i)
  | str (z : Str) : Rep K r G (.str z) (.str z)
  | ty (n : String) : Rep K r G (.ty n) (.ty n)
  | cls (C : Str) : Rep K r G (.ref (He.ga K C)) (.cls C)
  | rng {a : Addr} : r = some a → Rep K r G (.ref a) .rng
  | lst {a : Addr} {vs : List V} {ds : List D} : G a = some (.lst vs) → RepL K r G vs ds → Rep K r G (.ref a) (.lst ds)
  | tup {a : Addr} {vs : List V} {ds : List D} : SqT K G a vs → RepL K r G vs ds → Rep K r G (.ref a) (.tup ds)
  | dict {a : Addr} {kvs : List (Key × V)} {ds : List (Key × D)} : G a = some (.dK kvs) → RepK K r G kvs ds → Rep K r G (.ref a) (.dict ds)
  | obj {a dx : Addr} {C : Str} {fs : List (Str × V)} {ds : List (Str × D)} : G a = some (.ins (He.ga K C) dx fs) → RepF K r G fs ds → Rep K r G (.ref a) (.obj C ds)
inductive RepL (K : PySem.W.Frag) (r : Option Addr) (G : Hp) : List V → List D → Prop
  | nil : RepL K r G [] []
  | cons {v : V} {d : D} {vs : List V} {ds : List D} : Rep K r G v d → RepL K r G vs ds → RepL K r G (v :: vs) (d :: ds)
inductive RepK (K : PySem.W.Frag) (r : Option Addr) (G : Hp) : List (Key × V) → List (Key × D) → Prop
  | nil : RepK K r G [] []
  | cons {k : Key} {v : V} {d : D} {vs : List (Key × V)} {ds : List (Key × D)} : Rep K r G v d → RepK K r G vs ds → RepK K r G ((k, v) :: vs) ((k, d) :: ds)
inductive RepF (K : PySem.W.Frag) (r : Option Addr) (G : Hp) : List (Str × V) → List (Str × D) → Prop
  | nil : RepF K r G [] []
  | cons {k : Str} {v : V} {d : D} {vs : List (Str × V)} {ds : List (Str × D)} : Rep K r G v d → RepF K r G vs ds → RepF K r G ((k, v) :: vs) ((k, d) :: ds)
end
mutual
theorem Rep.ex {K : PySem.W.Frag} {r : Option Addr} {G G' : Hp} (e : Ex G G') : ∀ {v : V} {d : D}, Rep K r G v d → Rep K r G' v d
  | _, _, .non => .non
  | _, _, .bl b => .bl b
  | _, _, .int i => .int i
  | _, _, .str z => .str z
  | _, _, .ty n => .ty n
  | _, _, .cls C => .cls C
  | _, _, .rng h => .rng h
  | _, _, .lst h q => .lst (e _ _ h) (RepL.ex e q)
  | _, _, .tup h q => .tup (ex_seqT e h) (RepL.ex e q)
  | _, _, .dict h q => .dict (e _ _ h) (RepK.ex e q)
  | _, _, .obj h q => .obj (e _ _ h) (RepF.ex e q)
theorem RepL.ex {K : PySem.W.Frag} {r : Option Addr} {G G' : Hp} (e : Ex G G') : ∀ {v : List V} {d : List D}, RepL K r G v d → RepL K r G' v d
  | _, _, .nil => .nil
  | _, _, .cons h q => .cons (Rep.ex e h) (RepL.ex e q)
theorem RepK.ex {K : PySem.W.Frag} {r : Option Addr} {G G' : Hp} (e : Ex G G') : ∀ {v : List (Key × V)} {d : List (Key × D)}, RepK K r G v d → RepK K r G' v d
  | _, _, .nil => .nil
  | _, _, .cons h q => .cons (Rep.ex e h) (RepK.ex e q)
theorem RepF.ex {K : PySem.W.Frag} {r : Option Addr} {G G' : Hp} (e : Ex G G') : ∀ {v : List (Str × V)} {d : List (Str × D)}, RepF K r G v d → RepF K r G' v d
  | _, _, .nil => .nil
  | _, _, .cons h q => .cons (Rep.ex e h) (RepF.ex e q)
end
section
variable {K : PySem.W.Frag} {r : Option Addr} {G G' : Hp}
theorem RepL.length : ∀ {vs : List V} {ds : List D}, RepL K r G vs ds → vs.length = ds.length
  | _, _, .nil => rfl
  | _, _, .cons _ q => congrArg (· + 1) q.length
theorem RepL.get : ∀ {vs : List V} {ds : List D} {i : Nat} {d : D}, RepL K r G vs ds → ds[i]? = some d → ∃ v, vs[i]? = some v ∧ Rep K r G v d
  | _, _, _, _, .nil, e => by simp at e
  | _, _, 0, _, .cons h _, e => by simp at e; subst e; exact ⟨_, rfl, h⟩
  | _, _, i + 1, _, .cons _ q, e => by
    obtain ⟨v, h1, h2⟩ := RepL.get (i := i) q (by simpa using e)
    exact ⟨v, by simpa using h1, h2⟩
theorem RepL.getV : ∀ {vs : List V} {ds : List D} {i : Nat} {v : V}, RepL K r G vs ds → vs[i]? = some v → ∃ d, ds[i]? = some d ∧ Rep K r G v d
  | _, _, _, _, .nil, e => by simp at e
  | _, _, 0, _, .cons h _, e => by simp at e; subst e; exact ⟨_, rfl, h⟩
  | _, _, i + 1, _, .cons _ q, e => by
    obtain ⟨v, h1, h2⟩ := RepL.getV (i := i) q (by simpa using e)
    exact ⟨v, by simpa using h1, h2⟩
theorem RepL.append : ∀ {vs us : List V} {ds es : List D}, RepL K r G vs ds → RepL K r G us es → RepL K r G (vs ++ us) (ds ++ es)
  | _, _, _, _, .nil, h => h
  | _, _, _, _, .cons a b, h => .cons a (b.append h)
theorem RepL.take : ∀ {vs : List V} {ds : List D} (n : Nat), RepL K r G vs ds → RepL K r G (vs.take n) (ds.take n)
  | _, _, 0, _ => .nil
  | _, _, _ + 1, .nil => .nil
  | _, _, n + 1, .cons a b => .cons a (b.take n)
theorem RepL.drop : ∀ {vs : List V} {ds : List D} (n : Nat), RepL K r G vs ds → RepL K r G (vs.drop n) (ds.drop n)
  | _, _, 0, h => h
  | _, _, _ + 1, .nil => .nil
  | _, _, n + 1, .cons a b => b.drop n
theorem RepL.reverse : ∀ {vs : List V} {ds : List D}, RepL K r G vs ds → RepL K r G vs.reverse ds.reverse
  | _, _, .nil => .nil
  | _, _, .cons a b => by
    rw [List.reverse_cons, List.reverse_cons]
    exact b.reverse.append (.cons a .nil)
theorem RepL.strs : ∀ {vs : List V} {zs : List Str}, RepL K r G vs (zs.map D.str) → vs = zs.map V.str
  | _, [], .nil => rfl
  | _, _ :: _, .cons (.str _) q => by rw [q.strs]; rfl
theorem repL_strs : ∀ (zs : List Str), RepL K r G (zs.map V.str) (zs.map D.str)
  | [] => .nil
  | z :: zs => .cons (.str z) (repL_strs zs)
theorem RepL.bls : ∀ {vs : List V} {zs : List Bool}, RepL K r G vs (zs.map D.bl) → vs = zs.map V.bl
  | _, [], .nil => rfl
  | _, _ :: _, .cons (.bl _) q => by rw [q.bls]; rfl
theorem RepL.ints : ∀ {vs : List V} {zs : List Int}, RepL K r G vs (zs.map D.int) → vs = zs.map V.int
  | _, [], .nil => rfl
  | _, _ :: _, .cons (.int _) q => by rw [q.ints]; rfl
theorem repL_ints : ∀ (zs : List Int), RepL K r G (zs.map V.int) (zs.map D.int)
  | [] => .nil
  | z :: zs => .cons (.int z) (repL_ints zs)
theorem RepF.lookup : ∀ {fs : List (Str × V)} {ds : List (Str × D)} {f : Str} {d : D}, RepF K r G fs ds → ds.lookup f = some d → ∃ v, fs.lookup f = some v ∧ Rep K r G v d
  | _, _, _, _, .nil, e => by simp at e
  | (k, v) :: _, _ :: _, f, d, .cons h q, e => by
    rw [List.lookup_cons] at e ⊢
    cases hk : f == k with
    | true => rw [hk] at e; cases e; exact ⟨v, rfl, h⟩
    | false => rw [hk] at e; exact q.lookup e
theorem RepF.lookup_none : ∀ {fs : List (Str × V)} {ds : List (Str × D)} {f : Str}, RepF K r G fs ds → ds.lookup f = none → fs.lookup f = none
  | _, _, _, .nil, _ => rfl
  | (k, v) :: _, _ :: _, f, .cons h q, e => by
    rw [List.lookup_cons] at e ⊢
    cases hk : f == k with
    | true => rw [hk] at e; cases e
    | false => rw [hk] at e; exact q.lookup_none e
theorem RepF.length : ∀ {fs : List (Str × V)} {ds : List (Str × D)}, RepF K r G fs ds → fs.length = ds.length
  | _, _, .nil => rfl
  | _, _, .cons _ q => congrArg (· + 1) q.length
end
/-- an error: its class, its attributes -/
abbrev Xd := Str × List (Str × D)
/-- what is a body's own: a list, an instance in the making, a dict -/
inductive Ow where
  | l (xs : List D) | i (C : Str) (fs : List (Str × D)) | m (kvs : List (Key × D))
def Ow.d : Ow → D
  | .l xs => .lst xs
  | .i C fs => .obj C fs
  | .m kvs => .dict kvs
inductive OwR (K : PySem.W.Frag) (r : Option Addr) (G : Hp) : HO → Ow → Prop
  | l {vs : List V} {l : List D} : RepL K r G vs l → OwR K r G (.lst vs) (.l l)
  | i {C : Str} {dx : Addr} {fs : List (Str × V)} {ds : List (Str × D)} : RepF K r G fs ds → OwR K r G (.ins (He.ga K C) dx fs) (.i C ds)
  | m {kvs : List (Key × V)} {ds : List (Key × D)} : RepK K r G kvs ds → OwR K r G (.dK kvs) (.m ds)
theorem OwR.ex {K : PySem.W.Frag} {r : Option Addr} {G G' : Hp} (e : Ex G G') {o : HO} {x : Ow} (h : OwR K r G o x) : OwR K r G' o x := by
  cases h with
  | l h => exact .l (h.ex e)
  | i h => exact .i (h.ex e)
  | m h => exact .m (h.ex e)
theorem OwR.rep {K : PySem.W.Frag} {r : Option Addr} {G : Hp} {o : HO} {x : Ow} {a : Addr} (h : OwR K r G o x) (ha : G a = some o) : Rep K r G (.ref a) x.d := by
  cases h with
  | l h => exact .lst ha h
  | i h => exact .obj ha h
  | m h => exact .dict ha h
/-- what a slot holds: nothing that is known, data, a thing of the body's own, the error of the suite -/
inductive Sl where
  | no | d (x : D) | o (x : Ow) | x (e : Xd)
abbrev Rho := List Sl
abbrev Xk := Option (Addr × Value × Option Addr)
/-- r: the drawn numbers' list; F: what must stay; G0: what was frozen at the beginning -/
structure Dc where
  r : Option Addr
  F : Hp
  G0 : Hp
  me : Option Addr := none
def RepX (K : PySem.W.Frag) (r : Option Addr) (G : Hp) (x : Xd) (cls : Value) (dx : Option Addr) : Prop := ∃ d fs, cls = .ref (He.ga K x.1) ∧ dx = some d ∧ G d = some (.xd fs) ∧ RepF K r G fs x.2
theorem RepX.ex {K : PySem.W.Frag} {r : Option Addr} {G G' : Hp} {x : Xd} {cls : Value} {dx : Option Addr} (h : RepX K r G x cls dx) (e : Ex G G') : RepX K r G' x cls dx := by
  obtain ⟨d, fs, h1, h2, h3, h4⟩ := h
  exact ⟨d, fs, h1, h2, e _ _ h3, h4.ex e⟩
def SlotR (K : PySem.W.Frag) (xk : Xk) (c : Dc) (G H : Hp) (v : Option V) : Sl → Prop
  | .no => True
  | .d x => ∃ u, v = some u ∧ Rep K c.r G u x
  | .o l => ∃ a vs, v = some (.ref a) ∧ H a = some vs ∧ OwR K c.r G vs l ∧ G a = none ∧ c.F a = none ∧ c.r ≠ some a ∧ ∀ C fs, l = .i C fs → c.me = some a
  | .x e => ∃ a cls dx, xk = some (a, cls, dx) ∧ v = some (.ref a) ∧ RepX K c.r G e cls dx
/-- from G, H to G', H' but new things came, and things were drawn -/
structure Ext (r : Option Addr) (G H G' H' : Hp) : Prop where
  gg : Ex G G'
  sub : Ex G' H'
  kp : ∀ b o, H b = some o → r ≠ some b → H' b = some o
  nf : ∀ b, H b ≠ none → G b = none → G' b = none
  rg : ∀ a, r = some a → Rng a H'
/-- the drawn numbers' list stands, and is not frozen -/
def Rg (r : Option Addr) (G H : Hp) : Prop := ∀ a, r = some a → Rng a H ∧ G a = none
section
variable {r : Option Addr} {G H G' H' G2 H2 : Hp}
theorem Rg.ne {p : Addr} (h : Rg r G H) (n : H p = none) : r ≠ some p := fun e => (h p e).1.ne n rfl
theorem Ext.refl (s : Ex G H) (h : Rg r G H) : Ext r G H G H := ⟨Same.refl _, s, fun _ _ e _ => e, fun _ _ z => z, fun a e => (h a e).1⟩
theorem Ext.trans (a : Ext r G H G' H') (b : Ext r G' H' G2 H2) : Ext r G H G2 H2 where
  gg := a.gg.trans b.gg
  sub := b.sub
  kp := fun x o e n => b.kp x o (a.kp x o e n) n
  nf := fun x n z => by
    by_cases hx : H' x = none
    · cases e : H x with
      | none => exact absurd e n
      | some o =>
        by_cases q : r = some x
        · obtain ⟨_, _, h1, _⟩ := a.rg x q
          rw [h1] at hx
          cases hx
        · rw [a.kp x o e q] at hx
          cases hx
    · exact b.nf x hx (a.nf x n z)
  rg := b.rg
theorem Ext.Rg (a : Ext r G H G' H') (h : Rg r G H) : Rg r G' H' := fun x e => by
  obtain ⟨⟨u, w, h1, _⟩, h3⟩ := h x e
  exact ⟨a.rg x e, a.nf x (by rw [h1]; exact nofun) h3⟩
/-- a new object, frozen -/
theorem Ext.new {p : Addr} {o : HO} (s : Ex G H) (h : Ab.Rg r G H) (n : H p = none) : Ext r G H (upd G p o) (upd H p o) where
  gg := Ex.new (s.free n)
  sub := fun b u e => by
    by_cases q : b = p
    · subst q; rw [upd_same] at e ⊢; exact e
    · rw [upd_ne q] at e ⊢; exact s _ _ e
  kp := fun b u e _ => Ex.new n b u e
  nf := fun b q z => by
    have : b ≠ p := fun e => q (e ▸ n)
    rw [upd_ne this]; exact z
  rg := fun a e => (h a e).1.ex (Ex.new n)
/-- a new object, not frozen -/
theorem Ext.newO {p : Addr} {o : HO} (s : Ex G H) (h : Ab.Rg r G H) (n : H p = none) : Ext r G H G (upd H p o) where
  gg := Same.refl _
  sub := fun b u e => Ex.new n b u (s _ _ e)
  kp := fun b u e _ => Ex.new n b u e
  nf := fun b _ z => z
  rg := fun a e => (h a e).1.ex (Ex.new n)
end
/-- the state of a body -/
structure SR (K : PySem.W.Frag) (xk : Xk) (c : Dc) (ρ : Rho) (σ : L2.St) (G H : Hp) : Prop where
  len : ρ.length = σ.length
  sub : Ex G H
  frm : Ex c.F H
  g0 : Ex c.G0 G
  nw : ∀ b, c.F b ≠ none → c.G0 b = none → G b = none
  rg : ∀ a, c.r = some a → Rng a H ∧ G a = none ∧ c.F a = none
  sl : ∀ (i : Nat) (s : Sl), ρ[i]? = some s → ∃ v, σ[i]? = some v ∧ SlotR K xk c G H v s
  ap : ∀ (i j : Nat) (l l' : Ow) (a : Addr), i ≠ j → ρ[i]? = some (.o l) → ρ[j]? = some (.o l') → σ[i]? = some (some (.ref a)) → σ[j]? = some (some (.ref a)) → False
section
variable {K : PySem.W.Frag} {xk : Xk} {c : Dc} {ρ : Rho} {σ : L2.St} {G H G' H' : Hp}
theorem SR.Rg (s : SR K xk c ρ σ G H) : Rg c.r G H := fun a e => ⟨(s.rg a e).1, (s.rg a e).2.1⟩
theorem SR.ext (s : SR K xk c ρ σ G H) (e : Ext c.r G H G' H') : SR K xk c ρ σ G' H' where
  len := s.len
  sub := e.sub
  frm := fun b o q => e.kp b o (s.frm b o q) fun z => by rw [(s.rg b z).2.2] at q; cases q
  g0 := s.g0.trans e.gg
  nw := fun b h1 h2 => e.nf b (fun z => h1 (s.frm.free z)) (s.nw b h1 h2)
  rg := fun a q => ⟨e.rg a q, (e.Rg s.Rg a q).2, (s.rg a q).2.2⟩
  sl := fun i x hx => by
    obtain ⟨v, hv, h⟩ := s.sl i x hx
    refine ⟨v, hv, ?_⟩
    cases x with
    | no => trivial
    | d x => obtain ⟨u, h1, h2⟩ := h; exact ⟨u, h1, h2.ex e.gg⟩
    | o l =>
      obtain ⟨a, vs, h1, h2, h3, h4, h5, h6, h7⟩ := h
      exact ⟨a, vs, h1, e.kp _ _ h2 h6, h3.ex e.gg, e.nf a (by rw [h2]; exact nofun) h4, h5, h6, h7⟩
    | x y => obtain ⟨a, cls, dx, h1, h2, h3⟩ := h; exact ⟨a, cls, dx, h1, h2, h3.ex e.gg⟩
  ap := s.ap
theorem set_get {α : Type} {l : List α} {i j : Nat} {a b : α} (h : (l.set i a)[j]? = some b) : (i = j ∧ a = b ∧ i < l.length) ∨ (i ≠ j ∧ l[j]? = some b) := by
  rw [List.getElem?_set] at h
  split at h
  · rename_i e
    split at h
    · rename_i h2; exact .inl ⟨e, Option.some.inj h, by omega⟩
    · cases h
  · rename_i e; exact .inr ⟨e, h⟩
/-- a slot gets data -/
theorem SR.set (s : SR K xk c ρ σ G H) {i : Nat} {v : V} {d : D} (r : Rep K c.r G v d) : SR K xk c (ρ.set i (.d d)) (σ.set i (some v)) G H where
  len := by rw [List.length_set, List.length_set, s.len]
  sub := s.sub
  frm := s.frm
  g0 := s.g0
  nw := s.nw
  rg := s.rg
  sl := fun j x hx => by
    rcases set_get hx with ⟨rfl, rfl, hl⟩ | ⟨ne, hx⟩
    · refine ⟨some v, ?_, ⟨v, rfl, r⟩⟩
      rw [List.getElem?_set_self (by rw [← s.len]; exact hl)]
    · obtain ⟨u, hu, h⟩ := s.sl j x hx
      exact ⟨u, by rw [List.getElem?_set_ne ne]; exact hu, h⟩
  ap := fun j k l l' a ne h1 h2 h3 h4 => by
    rcases set_get h1 with ⟨_, z, _⟩ | ⟨n1, h1⟩
    · cases z
    rcases set_get h2 with ⟨_, z, _⟩ | ⟨n2, h2⟩
    · cases z
    rw [List.getElem?_set_ne n1] at h3
    rw [List.getElem?_set_ne n2] at h4
    exact s.ap j k l l' a ne h1 h2 h3 h4
/-- a slot is forgotten, whatever it gets -/
theorem SR.forget (s : SR K xk c ρ σ G H) {i : Nat} {v : Option V} : SR K xk c (ρ.set i .no) (σ.set i v) G H where
  len := by rw [List.length_set, List.length_set, s.len]
  sub := s.sub
  frm := s.frm
  g0 := s.g0
  nw := s.nw
  rg := s.rg
  sl := fun j x hx => by
    rcases set_get hx with ⟨rfl, rfl, hl⟩ | ⟨ne, hx⟩
    · refine ⟨v, ?_, trivial⟩
      rw [List.getElem?_set_self (by rw [← s.len]; exact hl)]
    · obtain ⟨u, hu, h⟩ := s.sl j x hx
      exact ⟨u, by rw [List.getElem?_set_ne ne]; exact hu, h⟩
  ap := fun j k l l' a ne h1 h2 h3 h4 => by
    rcases set_get h1 with ⟨_, z, _⟩ | ⟨n1, h1⟩
    · cases z
    rcases set_get h2 with ⟨_, z, _⟩ | ⟨n2, h2⟩
    · cases z
    rw [List.getElem?_set_ne n1] at h3
    rw [List.getElem?_set_ne n2] at h4
    exact s.ap j k l l' a ne h1 h2 h3 h4
/-- a list of the body's own, not yet in a slot -/
structure Tmp (K : PySem.W.Frag) (c : Dc) (ρ : Rho) (σ : L2.St) (G H : Hp) (a : Addr) (l : Ow) : Prop where
  ex : ∃ vs, H a = some vs ∧ OwR K c.r G vs l
  g : G a = none
  f : c.F a = none
  r : c.r ≠ some a
  me : ∀ C fs, l = .i C fs → c.me = some a
  no : ∀ (i : Nat) (l' : Ow), ρ[i]? = some (.o l') → σ[i]? = some (some (.ref a)) → False
theorem SR.setO (s : SR K xk c ρ σ G H) {i : Nat} {a : Addr} {l : Ow} (t : Tmp K c ρ σ G H a l) : SR K xk c (ρ.set i (.o l)) (σ.set i (some (.ref a))) G H where
  len := by rw [List.length_set, List.length_set, s.len]
  sub := s.sub
  frm := s.frm
  g0 := s.g0
  nw := s.nw
  rg := s.rg
  sl := fun j x hx => by
    rcases set_get hx with ⟨rfl, rfl, hl⟩ | ⟨ne, hx⟩
    · obtain ⟨⟨vs, h1, h2⟩, h3, h4, h5, h6, _⟩ := t
      refine ⟨some (.ref a), ?_, a, vs, rfl, h1, h2, h3, h4, h5, h6⟩
      rw [List.getElem?_set_self (by rw [← s.len]; exact hl)]
    · obtain ⟨u, hu, h⟩ := s.sl j x hx
      exact ⟨u, by rw [List.getElem?_set_ne ne]; exact hu, h⟩
  ap := fun j k l1 l2 b ne h1 h2 h3 h4 => by
    rcases set_get h1 with ⟨e1, z1, q1⟩ | ⟨n1, h1⟩
    · rcases set_get h2 with ⟨e2, z2, _⟩ | ⟨n2, h2⟩
      · exact ne (e1.symm.trans e2)
      · subst e1
        rw [List.getElem?_set_self (by rw [← s.len]; exact q1)] at h3
        rw [List.getElem?_set_ne n2] at h4
        cases h3
        exact t.no _ _ h2 h4
    · rw [List.getElem?_set_ne n1] at h3
      rcases set_get h2 with ⟨e2, z2, q2⟩ | ⟨n2, h2⟩
      · subst e2
        rw [List.getElem?_set_self (by rw [← s.len]; exact q2)] at h4
        cases h4
        exact t.no _ _ h1 h3
      · rw [List.getElem?_set_ne n2] at h4
        exact s.ap j k l1 l2 b ne h1 h2 h3 h4
theorem Tmp.of_new {p : Addr} {vs : HO} {l : Ow} (s : SR K xk c ρ σ G H) (n : H p = none) (h : OwR K c.r G vs l) (hi : ∀ C fs, l ≠ .i C fs) : Tmp K c ρ σ G (upd H p vs) p l where
  me := fun C fs e => absurd e (hi C fs)
  ex := ⟨vs, upd_same, h⟩
  g := s.sub.free n
  f := s.frm.free n
  r := s.Rg.ne n
  no := fun i l' h1 h2 => by
    obtain ⟨v, hv, a, us, h3, h4, _⟩ := s.sl i _ h1
    rw [h2] at hv
    cases hv
    cases h3
    rw [n] at h4
    cases h4
/-- a list of one's own is frozen -/
theorem SR.frz (s : SR K xk c ρ σ G H) {a : Addr} {l : Ow} (t : Tmp K c ρ σ G H a l) : ∃ G', SR K xk c ρ σ G' H ∧ Ex G G' ∧ Rep K c.r G' (.ref a) l.d := by
  obtain ⟨⟨vs, h1, h2⟩, h3, h4, h5, _, h6⟩ := t
  have e : Ex G (upd G a vs) := Ex.new h3
  refine ⟨upd G a vs, ?_, e, (h2.ex e).rep upd_same⟩
  exact {
    len := s.len
    sub := fun b o q => by
      by_cases z : b = a
      · subst z; rw [upd_same] at q; cases q; exact h1
      · rw [upd_ne z] at q; exact s.sub _ _ q
    frm := s.frm
    g0 := s.g0.trans e
    nw := fun b q1 q2 => by
      rw [upd_ne (fun z : b = a => q1 (z ▸ h4))]
      exact s.nw b q1 q2
    rg := fun x q => by
      have := s.rg x q
      exact ⟨this.1, by rw [upd_ne (fun z : x = a => h5 (z ▸ q))]; exact this.2.1, this.2.2⟩
    sl := fun i x hx => by
      obtain ⟨v, hv, h⟩ := s.sl i x hx
      refine ⟨v, hv, ?_⟩
      cases x with
      | no => trivial
      | d x => obtain ⟨u, q1, q2⟩ := h; exact ⟨u, q1, q2.ex e⟩
      | o l =>
        obtain ⟨b, us, q1, q2, q3, q4, q5, q6, q7⟩ := h
        subst q1
        exact ⟨b, us, rfl, q2, q3.ex e, by rw [upd_ne (fun z : b = a => h6 i l hx (z ▸ hv))]; exact q4, q5, q6, q7⟩
      | x y => obtain ⟨b, cls, dx, q1, q2, q3⟩ := h; exact ⟨b, cls, dx, q1, q2, q3.ex e⟩
    ap := s.ap }
/-- a slot's own list is taken out of it -/
theorem SR.out (s : SR K xk c ρ σ G H) {i : Nat} {l : Ow} (h : ρ[i]? = some (.o l)) : ∃ a, σ[i]? = some (some (.ref a)) ∧ SR K xk c (ρ.set i .no) σ G H ∧ Tmp K c (ρ.set i .no) σ G H a l := by
  obtain ⟨v, hv, a, vs, rfl, h2, h3, h4, h5, h6, h7⟩ := s.sl i _ h
  refine ⟨a, hv, ?_, ⟨⟨vs, h2, h3⟩, h4, h5, h6, h7, fun j l' q1 q2 => ?_⟩⟩
  · have := s.forget (i := i) (v := some (.ref a))
    have e : σ.set i (some (.ref a)) = σ := by
      apply List.ext_getElem?
      intro j
      rw [List.getElem?_set]
      split
      · rename_i z; subst z; split
        · exact hv.symm
        · rename_i q; rw [List.getElem?_eq_none (by omega)]
      · rfl
    rw [e] at this
    exact this
  · rcases set_get q1 with ⟨_, z, _⟩ | ⟨n1, q1⟩
    · cases z
    · exact s.ap i j l l' a n1 h q1 hv q2
/-- a slot's own list is changed -/
theorem SR.wr (s : SR K xk c ρ σ G H) {i : Nat} {l : Ow} (h : ρ[i]? = some (.o l)) {a : Addr} (ha : σ[i]? = some (some (.ref a))) {us : HO} {l' : Ow} (q : OwR K c.r G us l') (hi : ∀ C fs, l' = .i C fs → ∃ C' fs', l = .i C' fs') : SR K xk c (ρ.set i (.o l')) σ G (upd H a us) := by
  obtain ⟨v, hv, a', vs, h1, h2, h3, h4, h5, h6, h7⟩ := s.sl i _ h
  rw [ha] at hv
  cases hv
  cases h1
  have il : i < ρ.length := (List.getElem?_eq_some_iff.mp h).1
  exact {
    len := by rw [List.length_set, s.len]
    sub := fun b o e => by rw [upd_ne (fun z => by rw [z, h4] at e; cases e)]; exact s.sub _ _ e
    frm := fun b o e => by rw [upd_ne (fun z => by rw [z, h5] at e; cases e)]; exact s.frm _ _ e
    g0 := s.g0
    nw := s.nw
    rg := fun x e => by
      obtain ⟨⟨u, w, k1, k2⟩, k3, k4⟩ := s.rg x e
      exact ⟨⟨u, w, by rw [upd_ne (fun z : x = a => h6 (z ▸ e))]; exact k1, k2⟩, k3, k4⟩
    sl := fun j x hx => by
      rcases set_get hx with ⟨rfl, rfl, _⟩ | ⟨ne, hx⟩
      · exact ⟨_, ha, a, us, rfl, upd_same, q, h4, h5, h6, fun C fs e => by obtain ⟨C', fs', e'⟩ := hi C fs e; exact h7 C' fs' e'⟩
      · obtain ⟨u, hu, k⟩ := s.sl j x hx
        refine ⟨u, hu, ?_⟩
        cases x with
        | o l2 =>
          obtain ⟨b, ws, k1, k2, k3⟩ := k
          subst k1
          exact ⟨b, ws, rfl, by rw [upd_ne (fun z : b = a => s.ap i j l l2 a ne h hx ha (z ▸ hu))]; exact k2, k3⟩
        | no => trivial
        | d x => exact k
        | x y => exact k
    ap := fun j k l1 l2 b ne k1 k2 k3 k4 => by
      have f : ∀ (j : Nat) (l1 : Ow), (ρ.set i (Sl.o l'))[j]? = some (Sl.o l1) → ∃ l0 : Ow, ρ[j]? = some (Sl.o l0) := fun j l1 e => by
        rcases set_get e with ⟨rfl, _, _⟩ | ⟨_, e⟩
        · exact ⟨l, h⟩
        · exact ⟨_, e⟩
      obtain ⟨m1, k1⟩ := f j l1 k1
      obtain ⟨m2, k2⟩ := f k l2 k2
      exact s.ap j k m1 m2 b ne k1 k2 k3 k4 }
theorem SR.var (s : SR K xk c ρ σ G H) {i : Nat} {d : D} (h : ρ[i]? = some (.d d)) : ∃ v, σ[i]? = some (some v) ∧ Rep K c.r G v d := by
  obtain ⟨v, hv, u, rfl, r⟩ := s.sl i _ h
  exact ⟨u, hv, r⟩
end
end Ab

set_option Elab.async false
set_option linter.all false
set_option maxRecDepth 100000
set_option maxHeartbeats 4000000
/-! DxB: the judgements without a heap, names, operators, arguments, statements, loops. -/
namespace Ab
open PySem PySem.Spec PyProof.Rows L2
abbrev DQ := Rho → D → Prop
abbrev DB := Rho → Xd → Prop
abbrev DE := Rho → DQ → DB → Prop
abbrev DA := Rho → (Rho → List D → Prop) → DB → Prop
abbrev DO := Rho → (Rho → Ow → Prop) → DB → Prop
structure DEnds where
  nx : Rho → Prop
  rt : Rho → D → Prop
  bk : Rho → Prop
  ct : Rho → Prop
  xx : DB
abbrev DS := DEnds → Rho → Prop
section
variable (K : PySem.W.Frag) (xk : Xk)
def KXl (c : Dc) (G : Hp) (σ : L2.St) (W : WX) (B : DB) : Prop := ∀ ρ' x, B ρ' x → ∀ G' H' cls dx, SR K xk c ρ' σ G' H' → Ex G G' → RepX K c.r G' x cls dx → W cls dx σ H'
def KVl (c : Dc) (G : Hp) (σ : L2.St) (A : DQ) (Q : VK) : Prop := ∀ ρ' d, A ρ' d → ∀ v G' H', SR K xk c ρ' σ G' H' → Ex G G' → Rep K c.r G' v d → Q v H'
def KAl (c : Dc) (G : Hp) (σ : L2.St) (A : Rho → List D → Prop) (Q : List V → Hp → Prop) : Prop := ∀ ρ' d, A ρ' d → ∀ v G' H', SR K xk c ρ' σ G' H' → Ex G G' → RepL K c.r G' v d → Q v H'
def KOl (c : Dc) (G : Hp) (σ : L2.St) (A : Rho → Ow → Prop) (Q : VK) : Prop := ∀ ρ' l, A ρ' l → ∀ a G' H', SR K xk c ρ' σ G' H' → Ex G G' → Tmp K c ρ' σ G' H' a l → Q (.ref a) H'
/-- an expression -/
def rdE (W : WX) (w : DE) : TE := fun σ H Q => ∃ c ρ G A B, SR K xk c ρ σ G H ∧ w ρ A B ∧ KVl K xk c G σ A Q ∧ KXl K xk c G σ W B
/-- arguments -/
def rdA (W : WX) (w : DA) : TA := fun σ H Q => ∃ c ρ G A B, SR K xk c ρ σ G H ∧ w ρ A B ∧ KAl K xk c G σ A Q ∧ KXl K xk c G σ W B
/-- an expression that makes a list of one's own -/
def rdO (W : WX) (w : DO) : TE := fun σ H Q => ∃ c ρ G A B, SR K xk c ρ σ G H ∧ w ρ A B ∧ KOl K xk c G σ A Q ∧ KXl K xk c G σ W B
structure EndsR (c : Dc) (G : Hp) (W : WX) (A : DEnds) (E : Ends) : Prop where
  nx : ∀ ρ', A.nx ρ' → ∀ σ' G' H', SR K xk c ρ' σ' G' H' → Ex G G' → E.nx σ' H'
  rt : ∀ ρ' d, A.rt ρ' d → ∀ σ' v G' H', SR K xk c ρ' σ' G' H' → Ex G G' → Rep K c.r G' v d → E.rt v H'
  bk : ∀ ρ', A.bk ρ' → ∀ σ' G' H', SR K xk c ρ' σ' G' H' → Ex G G' → E.bk σ' H'
  ct : ∀ ρ', A.ct ρ' → ∀ σ' G' H', SR K xk c ρ' σ' G' H' → Ex G G' → E.ct σ' H'
  xx : ∀ ρ' x, A.xx ρ' x → ∀ σ' G' H' cls dx, SR K xk c ρ' σ' G' H' → Ex G G' → RepX K c.r G' x cls dx → W cls dx σ' H'
/-- a statement -/
def rdS (W : WX) (w : DS) : TS := fun E σ H => ∃ c ρ G A, SR K xk c ρ σ G H ∧ w A ρ ∧ EndsR K xk c G W A E
/-- a target -/
def rdG (vs : List Nat) (w : D → Rho → (Rho → Prop) → Prop) : TG := fun v σ H Q => ∃ c ρ G d A, SR K xk c ρ σ G H ∧ Rep K c.r G v d ∧ w d ρ A ∧ ∀ ρ', A ρ' → ∀ σ', SR K xk c ρ' σ' G H → wipe σ' vs = wipe σ vs → Q σ' H
/-- what is walked -/
def ItD (r : Option Addr) (G : Hp) (J : It) (l : List D) : Prop := ∃ Y, Walk J l.length (fun H => Ex G H) Y ∧ ∀ i H x H', i < l.length → Y i H x H' → ∀ G2, Ex G G2 → Ex G2 H → Rg r G2 H → ∃ G3 d, Ext r G2 H G3 H' ∧ l[i]? = some d ∧ Rep K r G3 x d
def rdI (W : WX) (w : DA) : TI := fun σ H R => ∃ c ρ G A B, SR K xk c ρ σ G H ∧ w ρ A B ∧ (∀ ρ' l, A ρ' l → ∀ G' H' J, SR K xk c ρ' σ G' H' → Ex G G' → ItD K c.r G' J l → R J H') ∧ KXl K xk c G σ W B
end
section
variable {K : PySem.W.Frag} {xk : Xk} {c : Dc} {G G1 : Hp} {σ : L2.St} {W : WX}
theorem KXl.ex {B : DB} (h : KXl K xk c G σ W B) (e : Ex G G1) : KXl K xk c G1 σ W B := fun ρ' x b G' H' cls dx s e' => h ρ' x b G' H' cls dx s (e.trans e')
theorem KVl.ex {A : DQ} {Q : VK} (h : KVl K xk c G σ A Q) (e : Ex G G1) : KVl K xk c G1 σ A Q := fun ρ' d a v G' H' s e' => h ρ' d a v G' H' s (e.trans e')
theorem EndsR.ex {A : DEnds} {E : Ends} (h : EndsR K xk c G W A E) (e : Ex G G1) : EndsR K xk c G1 W A E :=
  ⟨fun ρ' a σ' G' H' s e' => h.nx ρ' a σ' G' H' s (e.trans e'), fun ρ' d a σ' v G' H' s e' => h.rt ρ' d a σ' v G' H' s (e.trans e'), fun ρ' a σ' G' H' s e' => h.bk ρ' a σ' G' H' s (e.trans e'),
    fun ρ' a σ' G' H' s e' => h.ct ρ' a σ' G' H' s (e.trans e'), fun ρ' x a σ' G' H' cls dx s e' => h.xx ρ' x a σ' G' H' cls dx s (e.trans e')⟩
theorem EndsR.kx {A : DEnds} {E : Ends} (h : EndsR K xk c G W A E) : KXl K xk c G σ W A.xx := fun ρ' x a G' H' cls dx s e r => h.xx ρ' x a σ G' H' cls dx s e r
end
abbrev PD (X : Cx) (xk : Xk) (W : WX) (e : Expr) (w : DE) : Prop := PE X e (rdE X.K xk W w)
abbrev PDA (X : Cx) (xk : Xk) (W : WX) (es : List Expr) (w : DA) : Prop := PA X es (rdA X.K xk W w)
abbrev PDO (X : Cx) (xk : Xk) (W : WX) (e : Expr) (w : DO) : Prop := PE X e (rdO X.K xk W w)
abbrev PSD (X : Cx) (xk : Xk) (W : WX) (st : Stmt) (w : DS) : Prop := PS X st (rdS X.K xk W w)
abbrev PSDs (X : Cx) (xk : Xk) (W : WX) (st : List Stmt) (w : DS) : Prop := PSs X st (rdS X.K xk W w)
abbrev PGD (X : Cx) (xk : Xk) (vs : List Nat) (e : Expr) (w : D → Rho → (Rho → Prop) → Prop) : Prop := PG X e (rdG X.K xk vs w)
abbrev PID (X : Cx) (xk : Xk) (W : WX) (tg e : Expr) (w : DA) : Prop := PI X tg e (rdI X.K xk W w)
section
variable {X : Cx} {xk : Xk} {W : WX} {e : Expr} {es : List Expr} {st : Stmt} {sts : List Stmt}
theorem PE.to {t t' : TE} (h : PE X e t) (i : ∀ σ H Q, t' σ H Q → t σ H Q) : PE X e t' := ⟨fun pins s σ H Q I q => h.run pins s σ H Q I (i _ _ _ q)⟩
theorem PT.to {t t' : TT} (h : PT X e t) (i : ∀ σ H Q, t' σ H Q → t σ H Q) : PT X e t' := ⟨fun pins s σ H Q I q => h.run pins s σ H Q I (i _ _ _ q)⟩
theorem PA.to {t t' : TA} (h : PA X es t) (i : ∀ σ H Q, t' σ H Q → t σ H Q) : PA X es t' := ⟨fun pos pins s σ H Q I q => h.run pos pins s σ H Q I (i _ _ _ q)⟩
theorem PS.to {t t' : TS} (h : PS X st t) (i : ∀ E σ H, t' E σ H → t E σ H) : PS X st t' := ⟨fun pins s σ H E I q => h.run pins s σ H E I (i _ _ _ q)⟩
theorem PSs.to {t t' : TS} (h : PSs X sts t) (i : ∀ E σ H, t' E σ H → t E σ H) : PSs X sts t' := ⟨fun pins s σ H E I q => h.run pins s σ H E I (i _ _ _ q)⟩
theorem PG.to {t t' : TG} (h : PG X e t) (i : ∀ v σ H Q, t' v σ H Q → t v σ H Q) : PG X e t' := ⟨fun pins s σ H v u Q I r q => h.run pins s σ H v u Q I r (i _ _ _ _ q)⟩
theorem PI.to {tg : Expr} {t t' : TI} (h : PI X tg e t) (i : ∀ σ H R, t' σ H R → t σ H R) : PI X tg e t' := ⟨fun pins s σ H R I q => h.run pins s σ H R I (i _ _ _ q)⟩
/-! ### names, constants -/
def dV (i : Nat) : DE := fun ρ Q _ => match ρ[i]? with
  | some (.d x) => Q ρ x
  | some (.o l) => Q (ρ.set i (.d l.d)) l.d
  | _ => False
def dC (d : D) : DE := fun ρ Q _ => Q ρ d
theorem SR.freeze {K : PySem.W.Frag} {c : Dc} {ρ : Rho} {σ : L2.St} {G H : Hp} (s : SR K xk c ρ σ G H) {i : Nat} {l : Ow} (h : ρ[i]? = some (.o l)) :
    ∃ a G', σ[i]? = some (some (.ref a)) ∧ SR K xk c (ρ.set i (.d l.d)) σ G' H ∧ Ex G G' ∧ Rep K c.r G' (.ref a) l.d := by
  obtain ⟨a, ha, s1, t⟩ := s.out h
  obtain ⟨G', s2, e, r⟩ := s1.frz t
  have s3 := s2.set (i := i) r
  rw [List.set_set] at s3
  have e2 : σ.set i (some (.ref a)) = σ := by
    apply List.ext_getElem?
    intro j
    rw [List.getElem?_set]
    split
    · rename_i z; subst z; split
      · exact ha.symm
      · rename_i q; rw [List.getElem?_eq_none (by omega)]
    · rfl
  rw [e2] at s3
  exact ⟨a, G', ha, s3, e, r⟩
theorem pd_var {i : Nat} (h : PE X e (tVar i)) : PD X xk W e (dV i) := PE.to h fun σ H Q q => by
  obtain ⟨c, ρ, G, A, B, s, q, kv, kx⟩ := q
  unfold dV at q
  split at q
  · rename_i x hx
    obtain ⟨v, hv, r⟩ := s.var hx
    exact ⟨v, hv, kv _ _ q _ _ _ s (Same.refl _) r⟩
  · rename_i l hl
    obtain ⟨a, G', ha, s', e, r⟩ := s.freeze hl
    exact ⟨_, ha, kv _ _ q _ _ _ s' e r⟩
  · exact q.elim
theorem pd_c {v : V} {d : D} (h : PE X e (tC v)) (r : ∀ r G, Rep X.K r G v d) : PD X xk W e (dC d) := PE.to h fun σ H Q q => by
  obtain ⟨c, ρ, G, A, B, s, q, kv, kx⟩ := q
  exact kv _ _ q _ _ _ s (Same.refl _) (r _ _)
theorem pd_int {i j pos} : PD X xk W (.Constant (.int i) j pos) (dC (.int i)) := pd_c pe_int fun _ _ => .int _
theorem pd_bl {b j pos} : PD X xk W (.Constant (.bool b) j pos) (dC (.bl b)) := pd_c pe_bl fun _ _ => .bl _
theorem pd_non {j pos} : PD X xk W (.Constant .none j pos) (dC .non) := pd_c pe_non fun _ _ => .non
theorem pd_str {x j pos} : PD X xk W (.Constant (.str x) j pos) (dC (.str x)) := pd_c pe_str fun _ _ => .str _
/-! ### operators -/
def OpD (K : PySem.W.Frag) (r : R2) (f : D → D → (D → Prop) → Prop) : Prop := ∀ r0 G H x y dx dy (A : D → Prop) (Q : VK), Ex G H → Rg r0 G H → Rep K r0 G x dx → Rep K r0 G y dy → f dx dy A →
  (∀ z, A z → ∀ v G' H', Ext r0 G H G' H' → Rep K r0 G' v z → Q v H') → r x y H Q
def dOp (f : D → D → (D → Prop) → Prop) (w1 w2 : DE) : DE := fun ρ A B => w1 ρ (fun ρ1 x => w2 ρ1 (fun ρ2 y => f x y (A ρ2)) B) B
theorem rd_op {r : R2} {f : D → D → (D → Prop) → Prop} {w1 w2 : DE} (hd : OpD X.K r f) : ∀ σ H Q, rdE X.K xk W (dOp f w1 w2) σ H Q → tOp r (rdE X.K xk W w1) (rdE X.K xk W w2) σ H Q := fun σ H Q q => by
  obtain ⟨c, ρ, G, A, B, s, q, kv, kx⟩ := q
  refine ⟨c, ρ, G, _, B, s, q, fun ρ1 x q1 v1 G1 H1 s1 e1 r1 => ?_, kx⟩
  refine ⟨c, ρ1, G1, _, B, s1, q1, fun ρ2 y q2 v2 G2 H2 s2 e2 r2 => ?_, kx.ex e1⟩
  exact hd c.r G2 H2 _ _ _ _ _ _ s2.sub s2.Rg (r1.ex e2) r2 q2 fun z hz v G3 H3 e3 r3 => kv _ _ hz _ _ _ (s2.ext e3) ((e1.trans e2).trans e3.gg) r3
theorem pd_op {r : R2} {f : D → D → (D → Prop) → Prop} {w1 w2 : DE} (hd : OpD X.K r f) (h : PE X e (tOp r (rdE X.K xk W w1) (rdE X.K xk W w2))) : PD X xk W e (dOp f w1 w2) := PE.to h (rd_op hd)
def UnD (K : PySem.W.Frag) (r : V → Hp → VK → Prop) (f : D → (D → Prop) → Prop) : Prop := ∀ r0 G H x dx (A : D → Prop) (Q : VK), Ex G H → Rg r0 G H → Rep K r0 G x dx → f dx A →
  (∀ z, A z → ∀ v G' H', Ext r0 G H G' H' → Rep K r0 G' v z → Q v H') → r x H Q
def dUn (f : D → (D → Prop) → Prop) (w1 : DE) : DE := fun ρ A B => w1 ρ (fun ρ1 x => f x (A ρ1)) B
theorem pd_un {r : V → Hp → VK → Prop} {f : D → (D → Prop) → Prop} {w1 : DE} (hd : UnD X.K r f) (h : PE X e (tUn r (rdE X.K xk W w1))) : PD X xk W e (dUn f w1) := PE.to h fun σ H Q q => by
  obtain ⟨c, ρ, G, A, B, s, q, kv, kx⟩ := q
  refine ⟨c, ρ, G, _, B, s, q, fun ρ1 x q1 v1 G1 H1 s1 e1 r1 => ?_, kx⟩
  exact hd c.r G1 H1 _ _ _ _ s1.sub s1.Rg r1 q1 fun z hz v G3 H3 e3 r3 => kv _ _ hz _ _ _ (s1.ext e3) (e1.trans e3.gg) r3
/-- a op1 b op2 c -/
def dChain (f g : D → D → (D → Prop) → Prop) (w1 w2 w3 : DE) : DE := fun ρ A B => w1 ρ (fun ρ1 x => w2 ρ1 (fun ρ2 y => f x y fun z => ∃ k, z = .bl k ∧ if k = true then w3 ρ2 (fun ρ3 u => g y u (A ρ3)) B else A ρ2 (.bl false)) B) B
theorem pd_chain {r r' : R2} {f g : D → D → (D → Prop) → Prop} {w1 w2 w3 : DE} (hd : OpD X.K r f) (hd' : OpD X.K r' g) (h : PE X e (tChain r r' (rdE X.K xk W w1) (rdE X.K xk W w2) (rdE X.K xk W w3))) : PD X xk W e (dChain f g w1 w2 w3) := PE.to h fun σ H Q q => by
  obtain ⟨c, ρ, G, A, B, s, q, kv, kx⟩ := q
  refine ⟨c, ρ, G, _, B, s, q, fun ρ1 x q1 v1 G1 H1 s1 e1 r1 => ?_, kx⟩
  refine ⟨c, ρ1, G1, _, B, s1, q1, fun ρ2 y q2 v2 G2 H2 s2 e2 r2 => ?_, kx.ex e1⟩
  refine hd c.r G2 H2 _ _ _ _ _ _ s2.sub s2.Rg (r1.ex e2) r2 q2 fun z hz v G3 H3 e3 r3 => ?_
  obtain ⟨k, rfl, hz⟩ := hz
  cases r3
  refine ⟨k, rfl, ?_⟩
  have s3 := s2.ext e3
  have e13 := (e1.trans e2).trans e3.gg
  cases k with
  | false =>
    rw [if_neg (by decide)] at hz ⊢
    exact kv _ _ hz _ _ _ s3 e13 (.bl false)
  | true =>
    rw [if_pos rfl] at hz ⊢
    refine ⟨c, ρ2, G3, _, B, s3, hz, fun ρ3 u q3 v4 G4 H4 s4 e4 r4 => ?_, kx.ex e13⟩
    exact hd' c.r G4 H4 _ _ _ _ _ _ s4.sub s4.Rg (r2.ex (e3.gg.trans e4)) r4 q3 fun z hz v G5 H5 e5 r5 => kv _ _ hz _ _ _ (s4.ext e5) ((e13.trans e4).trans e5.gg) r5
/-- truth of a bool -/
def dB (w : DE) (k : Rho → Bool → Prop) : Rho → DB → Prop := fun ρ B => w ρ (fun ρ1 x => ∃ b, x = .bl b ∧ k ρ1 b) B
def dAnd (w1 w2 : DE) : DE := fun ρ A B => w1 ρ (fun ρ1 x => ∃ b, x = .bl b ∧ if b = true then w2 ρ1 A B else A ρ1 (.bl false)) B
def dOr (w1 w2 : DE) : DE := fun ρ A B => w1 ρ (fun ρ1 x => ∃ b, x = .bl b ∧ if b = true then A ρ1 (.bl true) else w2 ρ1 A B) B
def dNot (w1 : DE) : DE := fun ρ A B => w1 ρ (fun ρ1 x => ∃ b, x = .bl b ∧ A ρ1 (.bl (!b))) B
def dIfE (w w1 w2 : DE) : DE := fun ρ A B => w ρ (fun ρ1 x => ∃ b, x = .bl b ∧ if b = true then w1 ρ1 A B else w2 ρ1 A B) B
theorem pd_and {w1 w2 : DE} (h : PE X e (tAndV (rdE X.K xk W w1) (rdE X.K xk W w2))) : PD X xk W e (dAnd w1 w2) := PE.to h fun σ H Q q => by
  obtain ⟨c, ρ, G, A, B, s, q, kv, kx⟩ := q
  refine ⟨c, ρ, G, _, B, s, q, fun ρ1 x q1 v1 G1 H1 s1 e1 r1 => ?_, kx⟩
  obtain ⟨b, rfl, q1⟩ := q1
  cases r1
  refine ⟨b, rfl, ?_⟩
  cases b with
  | false => exact kv _ _ q1 _ _ _ s1 e1 (.bl false)
  | true => exact ⟨c, ρ1, G1, A, B, s1, q1, kv.ex e1, kx.ex e1⟩
theorem pd_or {w1 w2 : DE} (h : PE X e (tOrV (rdE X.K xk W w1) (rdE X.K xk W w2))) : PD X xk W e (dOr w1 w2) := PE.to h fun σ H Q q => by
  obtain ⟨c, ρ, G, A, B, s, q, kv, kx⟩ := q
  refine ⟨c, ρ, G, _, B, s, q, fun ρ1 x q1 v1 G1 H1 s1 e1 r1 => ?_, kx⟩
  obtain ⟨b, rfl, q1⟩ := q1
  cases r1
  refine ⟨b, rfl, ?_⟩
  cases b with
  | true => exact kv _ _ q1 _ _ _ s1 e1 (.bl true)
  | false => exact ⟨c, ρ1, G1, A, B, s1, q1, kv.ex e1, kx.ex e1⟩
theorem pd_not {w1 : DE} (h : PE X e (tNotV (rdE X.K xk W w1))) : PD X xk W e (dNot w1) := PE.to h fun σ H Q q => by
  obtain ⟨c, ρ, G, A, B, s, q, kv, kx⟩ := q
  refine ⟨c, ρ, G, _, B, s, q, fun ρ1 x q1 v1 G1 H1 s1 e1 r1 => ?_, kx⟩
  obtain ⟨b, rfl, q1⟩ := q1
  cases r1
  exact ⟨b, rfl, kv _ _ q1 _ _ _ s1 e1 (.bl _)⟩
theorem pd_ifE {w w1 w2 : DE} (h : PE X e (tIf (tB (rdE X.K xk W w)) (rdE X.K xk W w1) (rdE X.K xk W w2))) : PD X xk W e (dIfE w w1 w2) := PE.to h fun σ H Q q => by
  obtain ⟨c, ρ, G, A, B, s, q, kv, kx⟩ := q
  refine ⟨c, ρ, G, _, B, s, q, fun ρ1 x q1 v1 G1 H1 s1 e1 r1 => ?_, kx⟩
  obtain ⟨b, rfl, q1⟩ := q1
  cases r1
  refine ⟨b, rfl, ?_⟩
  cases b with
  | true => exact ⟨c, ρ1, G1, A, B, s1, q1, kv.ex e1, kx.ex e1⟩
  | false => exact ⟨c, ρ1, G1, A, B, s1, q1, kv.ex e1, kx.ex e1⟩
/-! ### arguments, displays -/
def dNil : DA := fun ρ A _ => A ρ []
def dCons (w : DE) (ws : DA) : DA := fun ρ A B => w ρ (fun ρ1 x => ws ρ1 (fun ρ2 xs => A ρ2 (x :: xs)) B) B
theorem pda_nil : PDA X xk W [] dNil := PA.to pa_nil fun σ H Q q => by
  obtain ⟨c, ρ, G, A, B, s, q, kv, kx⟩ := q
  exact kv _ _ q _ _ _ s (Same.refl _) .nil
theorem pda_cons {w : DE} {ws : DA} (h : PA X es (tCons (rdE X.K xk W w) (rdA X.K xk W ws))) : PDA X xk W es (dCons w ws) := PA.to h fun σ H Q q => by
  obtain ⟨c, ρ, G, A, B, s, q, kv, kx⟩ := q
  refine ⟨c, ρ, G, _, B, s, q, fun ρ1 x q1 v1 G1 H1 s1 e1 r1 => ?_, kx⟩
  exact ⟨c, ρ1, G1, _, B, s1, q1, fun ρ2 y q2 v2 G2 H2 s2 e2 r2 => kv _ _ q2 _ _ _ s2 (e1.trans e2) (.cons (r1.ex e2) r2), kx.ex e1⟩
/-- (a, ..) -/
def dTup (w : DA) : DE := fun ρ A B => w ρ (fun ρ1 xs => xs.length ≤ 1000000 ∧ A ρ1 (.tup xs)) B
theorem big_le {n : Nat} (h : n ≤ 1000000) : n ≤ sizeLine := Nat.le_trans h (by decide)
theorem big_lt {n : Nat} (h : n ≤ 1000000) : n < sizeLine := Nat.lt_of_le_of_lt h (by decide)
theorem pd_tup {w : DA} (h : PE X e (tTup (rdA X.K xk W w))) : PD X xk W e (dTup w) := PE.to h fun σ H Q q => by
  obtain ⟨c, ρ, G, A, B, s, q, kv, kx⟩ := q
  refine ⟨c, ρ, G, _, B, s, q, fun ρ1 x q1 v1 G1 H1 s1 e1 r1 => ?_, kx⟩
  refine ⟨by rw [r1.length]; exact big_le q1.1, fun p hp => ?_⟩
  have E := Ext.new (o := .tup v1) s1.sub s1.Rg hp
  exact kv _ _ q1.2 _ _ _ (s1.ext E) (e1.trans E.gg) (.tup (SqT.of upd_same) (r1.ex E.gg))
/-- [a, ..] -/
def dLst (w : DA) : DO := fun ρ A B => w ρ (fun ρ1 xs => xs.length ≤ 1000000 ∧ A ρ1 (.l xs)) B
theorem pdo_lst {w : DA} (h : PE X e (tLst (rdA X.K xk W w))) : PDO X xk W e (dLst w) := PE.to h fun σ H Q q => by
  obtain ⟨c, ρ, G, A, B, s, q, kv, kx⟩ := q
  refine ⟨c, ρ, G, _, B, s, q, fun ρ1 x q1 v1 G1 H1 s1 e1 r1 => ?_, kx⟩
  refine ⟨by rw [r1.length]; exact big_le q1.1, fun p hp => ?_⟩
  exact kv _ _ q1.2 _ _ _ (s1.ext (Ext.newO s1.sub s1.Rg hp)) e1 (Tmp.of_new s1 hp (.l r1) nofun)
/-- a new list as a value -/
def dF (w : DO) : DE := fun ρ A B => w ρ (fun ρ1 l => A ρ1 l.d) B
theorem pd_frz {w : DO} (h : PDO X xk W e w) : PD X xk W e (dF w) := PE.to h fun σ H Q q => by
  obtain ⟨c, ρ, G, A, B, s, q, kv, kx⟩ := q
  refine ⟨c, ρ, G, _, B, s, q, fun ρ1 l q1 a G1 H1 s1 e1 t1 => ?_, kx⟩
  obtain ⟨G', s2, e, r⟩ := s1.frz t1
  exact kv _ _ q1 _ _ _ s2 (e1.trans e) r
/-! ### statements -/
def dNext : DS := fun A ρ => A.nx ρ
def dSeq (w1 w2 : DS) : DS := fun A ρ => w1 { A with nx := w2 A } ρ
theorem psd_nil : PSDs X xk W [] dNext := PSs.to pss_nil fun E σ H q => by
  obtain ⟨c, ρ, G, A, s, q, k⟩ := q
  exact k.nx _ q _ _ _ s (Same.refl _)
theorem psd_cons {w1 w2 : DS} (h : PSs X sts (tSeq (rdS X.K xk W w1) (rdS X.K xk W w2))) : PSDs X xk W sts (dSeq w1 w2) := PSs.to h fun E σ H q => by
  obtain ⟨c, ρ, G, A, s, q, k⟩ := q
  refine ⟨c, ρ, G, _, s, q, ⟨fun ρ' q' σ' G' H' s' e' => ⟨c, ρ', G', A, s', q', k.ex e'⟩, k.rt, k.bk, k.ct, k.xx⟩⟩
theorem psd_pass (h : PS X st tNext) : PSD X xk W st dNext := PS.to h fun E σ H q => by
  obtain ⟨c, ρ, G, A, s, q, k⟩ := q
  exact k.nx _ q _ _ _ s (Same.refl _)
def dBrk : DS := fun A ρ => A.bk ρ
def dCnt : DS := fun A ρ => A.ct ρ
theorem psd_break (h : PS X st tBreak) : PSD X xk W st dBrk := PS.to h fun E σ H q => by
  obtain ⟨c, ρ, G, A, s, q, k⟩ := q
  exact k.bk _ q _ _ _ s (Same.refl _)
theorem psd_cont (h : PS X st tCont) : PSD X xk W st dCnt := PS.to h fun E σ H q => by
  obtain ⟨c, ρ, G, A, s, q, k⟩ := q
  exact k.ct _ q _ _ _ s (Same.refl _)
def dExpr (w : DE) : DS := fun A ρ => w ρ (fun ρ1 _ => A.nx ρ1) A.xx
theorem psd_expr {w : DE} (h : PS X st (tDrop (rdE X.K xk W w))) : PSD X xk W st (dExpr w) := PS.to h fun E σ H q => by
  obtain ⟨c, ρ, G, A, s, q, k⟩ := q
  exact ⟨c, ρ, G, _, _, s, q, fun ρ1 x q1 v1 G1 H1 s1 e1 r1 => k.nx _ q1 _ _ _ s1 e1, k.kx⟩
def dRet (w : DE) : DS := fun A ρ => w ρ A.rt A.xx
theorem psd_ret {w : DE} (h : PS X st (tRet (rdE X.K xk W w))) : PSD X xk W st (dRet w) := PS.to h fun E σ H q => by
  obtain ⟨c, ρ, G, A, s, q, k⟩ := q
  exact ⟨c, ρ, G, _, _, s, q, fun ρ1 x q1 v1 G1 H1 s1 e1 r1 => k.rt _ _ q1 _ _ _ _ s1 e1 r1, k.kx⟩
def dRetN : DS := fun A ρ => A.rt ρ .non
theorem psd_retN (h : PS X st tRetN) : PSD X xk W st dRetN := PS.to h fun E σ H q => by
  obtain ⟨c, ρ, G, A, s, q, k⟩ := q
  exact k.rt _ _ q _ _ _ _ s (Same.refl _) .non
def dIf (w : DE) (t u : DS) : DS := fun A ρ => w ρ (fun ρ1 x => ∃ b, x = .bl b ∧ if b = true then t A ρ1 else u A ρ1) A.xx
theorem psd_if {w : DE} {t u : DS} (h : PS X st (tIfS (tB (rdE X.K xk W w)) (rdS X.K xk W t) (rdS X.K xk W u))) : PSD X xk W st (dIf w t u) := PS.to h fun E σ H q => by
  obtain ⟨c, ρ, G, A, s, q, k⟩ := q
  refine ⟨c, ρ, G, _, _, s, q, fun ρ1 x q1 v1 G1 H1 s1 e1 r1 => ?_, k.kx⟩
  obtain ⟨b, rfl, q1⟩ := q1
  cases r1
  refine ⟨b, rfl, ?_⟩
  cases b with
  | true => exact ⟨c, ρ1, G1, A, s1, q1, k.ex e1⟩
  | false => exact ⟨c, ρ1, G1, A, s1, q1, k.ex e1⟩
/-- x = e -/
def dSet (i : Nat) (w : DE) : DS := fun A ρ => w ρ (fun ρ1 x => A.nx (ρ1.set i (.d x))) A.xx
theorem psd_set {i : Nat} {w : DE} (h : PS X st (tAsg (rdE X.K xk W w) (gName i))) : PSD X xk W st (dSet i w) := PS.to h fun E σ H q => by
  obtain ⟨c, ρ, G, A, s, q, k⟩ := q
  exact ⟨c, ρ, G, _, _, s, q, fun ρ1 x q1 v1 G1 H1 s1 e1 r1 => k.nx _ q1 _ _ _ (s1.set r1) e1, k.kx⟩
/-- x = a new list, of the body's own -/
def dSetO (i : Nat) (w : DO) : DS := fun A ρ => w ρ (fun ρ1 l => A.nx (ρ1.set i (.o l))) A.xx
theorem psd_setO {i : Nat} {w : DO} (h : PS X st (tAsg (rdO X.K xk W w) (gName i))) : PSD X xk W st (dSetO i w) := PS.to h fun E σ H q => by
  obtain ⟨c, ρ, G, A, s, q, k⟩ := q
  exact ⟨c, ρ, G, _, _, s, q, fun ρ1 x q1 v1 G1 H1 s1 e1 r1 => k.nx _ q1 _ _ _ (s1.setO r1) e1, k.kx⟩
/-- a, b = e, e' -/
def dPar (i j : Nat) (w : DA) : DS := fun A ρ => w ρ (fun ρ1 xs => ∃ x y, xs = [x, y] ∧ A.nx ((ρ1.set i (.d x)).set j (.d y))) A.xx
theorem psd_par {i j : Nat} {w : DA} (h : PS X st (tPar i j (rdA X.K xk W w))) : PSD X xk W st (dPar i j w) := PS.to h fun E σ H q => by
  obtain ⟨c, ρ, G, A, s, q, k⟩ := q
  refine ⟨c, ρ, G, _, _, s, q, fun ρ1 xs q1 v1 G1 H1 s1 e1 r1 => ?_, k.kx⟩
  obtain ⟨x, y, rfl, q1⟩ := q1
  cases r1 with
  | cons a b => cases b with
    | cons a' b' => cases b'; exact ⟨_, _, rfl, k.nx _ q1 _ _ _ ((s1.set a).set a') e1⟩
def dPar3 (i j l : Nat) (w : DA) : DS := fun A ρ => w ρ (fun ρ1 xs => ∃ x y z, xs = [x, y, z] ∧ A.nx (((ρ1.set i (.d x)).set j (.d y)).set l (.d z))) A.xx
theorem psd_par3 {i j l : Nat} {w : DA} (h : PS X st (tPar3 i j l (rdA X.K xk W w))) : PSD X xk W st (dPar3 i j l w) := PS.to h fun E σ H q => by
  obtain ⟨c, ρ, G, A, s, q, k⟩ := q
  refine ⟨c, ρ, G, _, _, s, q, fun ρ1 xs q1 v1 G1 H1 s1 e1 r1 => ?_, k.kx⟩
  obtain ⟨x, y, z, rfl, q1⟩ := q1
  cases r1 with
  | cons a b => cases b with
    | cons a' b' => cases b' with
      | cons a'' b'' => cases b''; exact ⟨_, _, _, rfl, k.nx _ q1 _ _ _ (((s1.set a).set a').set a'') e1⟩
/-! ### targets -/
def gN (i : Nat) : D → Rho → (Rho → Prop) → Prop := fun x ρ A => A (ρ.set i (.d x))
theorem wipe_in {σ : L2.St} {i : Nat} : ∀ {vs : List Nat}, i ∈ vs → i < σ.length → (wipe σ vs)[i]? = some none
  | v :: vs, h, hl => by
    unfold wipe
    by_cases e : v = i
    · subst e
      rw [List.getElem?_set_self (by rw [wipe_length]; exact hl)]
    · rw [List.getElem?_set_ne e]
      rcases List.mem_cons.mp h with z | z
      · exact absurd z.symm e
      · exact wipe_in z hl
theorem wipe_set {σ : L2.St} {i : Nat} {v : Option V} {vs : List Nat} (h : i ∈ vs) : wipe (σ.set i v) vs = wipe σ vs := by
  apply List.ext_getElem?
  intro j
  by_cases hl : j < σ.length
  · by_cases hj : j ∈ vs
    · rw [wipe_in hj hl, wipe_in hj (by rw [List.length_set]; exact hl)]
    · rw [wipe_out hj, wipe_out hj, List.getElem?_set_ne (fun e : i = j => hj (e ▸ h))]
  · rw [List.getElem?_eq_none (by rw [wipe_length, List.length_set]; omega), List.getElem?_eq_none (by rw [wipe_length]; omega)]
theorem pgd_name {i : Nat} {vs : List Nat} (h : PG X e (gName i)) (hi : i ∈ vs := by decide) : PGD X xk vs e (gN i) := PG.to h fun v σ H Q q => by
  obtain ⟨c, ρ, G, d, A, s, r, q, k⟩ := q
  exact k _ q _ (s.set r) (wipe_set hi)
/-- e = (a, b) = .. of tuples -/
def gT : List Nat → D → Rho → (Rho → Prop) → Prop := fun is x ρ A => ∃ xs, x = .tup xs ∧ xs.length = is.length ∧ A ((is.zip xs).foldl (fun ρ p => ρ.set p.1 (.d p.2)) ρ)
def gTN : List Nat → TGs
  | [] => gNil
  | i :: is => gCons (gName i) (gTN is)
theorem gTN_ok {K : PySem.W.Frag} {c : Dc} {G H : Hp} : ∀ {is : List Nat} {vs : List V} {xs : List D} {ρ : Rho} {σ : L2.St} {Q : L2.St → Hp → Prop}, RepL K c.r G vs xs → xs.length = is.length → SR K xk c ρ σ G H →
    (∀ σ', SR K xk c ((is.zip xs).foldl (fun ρ p => ρ.set p.1 (.d p.2)) ρ) σ' G H → (∀ ws : List Nat, (∀ i ∈ is, i ∈ ws) → wipe σ' ws = wipe σ ws) → Q σ' H) → gTN is vs σ H Q
  | [], _, [], _, _, _, .nil, _, s, k => ⟨rfl, k _ s fun _ _ => rfl⟩
  | i :: is, _, x :: xs, ρ, σ, Q, .cons r rs, hl, s, k => ⟨_, _, rfl, gTN_ok (is := is) rs (by simpa using hl) (s.set (i := i) r) fun σ' s' hw => k σ' s' fun ws hi => (hw ws fun j hj => hi j (List.mem_cons_of_mem _ hj)).trans (wipe_set (hi i List.mem_cons_self))⟩
theorem pgd_tup {n : Nat} {is vs : List Nat} (h : PG X e (gTup X.K n (gTN is))) (hn : n = is.length := by rfl) (hi : ∀ i ∈ is, i ∈ vs := by decide) : PGD X xk vs e (gT is) := PG.to h fun v σ H Q q => by
  obtain ⟨c, ρ, G, d, A, s, r, ⟨xs, rfl, hl, q⟩, k⟩ := q
  cases r with
  | tup h1 h2 => exact ⟨_, _, rfl, ex_seqT s.sub h1, by rw [h2.length, hl, hn], gTN_ok h2 hl s fun σ' s' hw => k _ q _ s' (hw vs hi)⟩
def dAsg (w : DE) (g : D → Rho → (Rho → Prop) → Prop) : DS := fun A ρ => w ρ (fun ρ1 x => g x ρ1 A.nx) A.xx
theorem psd_asg {w : DE} {vs : List Nat} {g : D → Rho → (Rho → Prop) → Prop} (h : PS X st (tAsg (rdE X.K xk W w) (rdG X.K xk vs g))) : PSD X xk W st (dAsg w g) := PS.to h fun E σ H q => by
  obtain ⟨c, ρ, G, A, s, q, k⟩ := q
  exact ⟨c, ρ, G, _, _, s, q, fun ρ1 x q1 v1 G1 H1 s1 e1 r1 => ⟨c, ρ1, G1, x, _, s1, r1, q1, fun ρ' q' σ' s' _ => k.nx _ q' _ _ _ s' e1⟩, k.kx⟩
/-! ### loops -/
/-- a loop over l: P is what holds between the turns -/
def dLoop (g : D → Rho → (Rho → Prop) → Prop) (wb : DS) (l : List D) : DS := fun A ρ => ∃ P : Nat → Rho → Prop, P 0 ρ ∧ (∀ i x ρ, l[i]? = some x → P i ρ → g x ρ fun ρ1 => wb { A with nx := P (i + 1), ct := P (i + 1), bk := A.nx } ρ1) ∧ ∀ ρ, P l.length ρ → A.nx ρ
def dFor (wi : DA) (g : D → Rho → (Rho → Prop) → Prop) (wb : DS) : DS := fun A ρ => wi ρ (fun ρ1 l => dLoop g wb l A ρ1) A.xx
theorem psd_for {wi : DA} {vs : List Nat} {g : D → Rho → (Rho → Prop) → Prop} {wb : DS} (h : PS X st (tFor (rdI X.K xk W wi) (rdG X.K xk vs g) (rdS X.K xk W wb))) : PSD X xk W st (dFor wi g wb) := PS.to h fun E σ H q => by
  obtain ⟨c, ρ, G, A, s, q, k⟩ := q
  rw [tFor_eq]
  refine ⟨c, ρ, G, _, _, s, q, fun ρ1 l q1 G1 H1 J s1 e1 it => ?_, k.kx⟩
  obtain ⟨P, p0, ps, pn⟩ := q1
  obtain ⟨Y, wk, hy⟩ := it
  refine for_f wk (fun i σ' H' => ∃ ρ' G', SR X.K xk c ρ' σ' G' H' ∧ Ex G1 G' ∧ P i ρ') ⟨ρ1, G1, s1, Same.refl _, p0⟩ (fun i σ' H' _ ⟨ρ', G', s', e', _⟩ => e'.trans s'.sub) ?_ ?_
  · rintro i x σ2 H2 H3 hi ⟨ρ2, G2, s2, e2, p2⟩ y
    obtain ⟨G3, d, E3, hd, r3⟩ := hy i H2 x H3 hi y G2 e2 s2.sub s2.Rg
    have s3 := s2.ext E3
    refine ⟨c, ρ2, G3, d, _, s3, r3, ps i d ρ2 hd p2, fun ρ' q' σ' s' _ => ?_⟩
    have e3 := e2.trans E3.gg
    refine ⟨c, ρ', G3, _, s', q', ⟨fun ρ4 p4 σ4 G4 H4 s4 e4 => ⟨ρ4, G4, s4, e3.trans e4, p4⟩, fun ρ4 d4 p4 σ4 v4 G4 H4 s4 e4 r4 => k.rt _ _ p4 _ _ _ _ s4 ((e1.trans e3).trans e4) r4, fun ρ4 p4 σ4 G4 H4 s4 e4 => k.nx _ p4 _ _ _ s4 ((e1.trans e3).trans e4),
      fun ρ4 p4 σ4 G4 H4 s4 e4 => ⟨ρ4, G4, s4, e3.trans e4, p4⟩, fun ρ4 x4 p4 σ4 G4 H4 cls dx s4 e4 r4 => k.xx _ _ p4 _ _ _ _ _ s4 ((e1.trans e3).trans e4) r4⟩⟩
  · rintro σ2 H2 ⟨ρ2, G2, s2, e2, p2⟩
    exact k.nx _ (pn _ p2) _ _ _ s2 (e1.trans e2)
/-- what may be walked: lists, tuples, texts -/
def items : D → (List D → Prop) → Prop
  | .lst l, Q => Q l
  | .tup l, Q => Q l
  | .str z, Q => Q ((cs z).map fun c => .str ⟨#[c]⟩)
  | _, _ => False
end
end Ab

set_option Elab.async false
set_option linter.all false
set_option maxRecDepth 100000
set_option maxHeartbeats 4000000
/-! DxC: what is walked, comprehensions, calls of defs. -/
namespace Ab
open PySem PySem.Spec PyProof.Rows L2
section
variable {K : PySem.W.Frag} {r : Option Addr} {G : Hp}
theorem itd_list {a : Addr} {vs : List V} {l : List D} (h1' : G a = some (.lst vs)) (h2 : RepL K r G vs l) : ItD K r G (Itl K a) l := by
  have h1 : SqL K G a vs := SqL.of h1'
  have w : Walk (Itl K a) l.length (fun H => Ex G H) (YAt vs) := by
    rw [← h2.length]
    exact walk_list.mono (fun H e => ex_seqL e h1) fun _ _ _ _ _ _ y => y
  refine ⟨_, w, fun i H x H' hi y G2 e2 s2 g2 => ?_⟩
  obtain ⟨rfl, hx⟩ := y
  obtain ⟨d, hd, rd⟩ := h2.getV hx
  exact ⟨G2, d, Ext.refl s2 g2, hd, rd.ex e2⟩
theorem itd_tup {a : Addr} {vs : List V} {l : List D} (h1 : SqT K G a vs) (h2 : RepL K r G vs l) : ItD K r G (Itt K a) l := by
  have w : Walk (Itt K a) l.length (fun H => Ex G H) (YAt vs) := by
    rw [← h2.length]
    exact walk_tup.mono (fun H e => ex_seqT e h1) fun _ _ _ _ _ _ y => y
  refine ⟨_, w, fun i H x H' hi y G2 e2 s2 g2 => ?_⟩
  obtain ⟨rfl, hx⟩ := y
  obtain ⟨d, hd, rd⟩ := h2.getV hx
  exact ⟨G2, d, Ext.refl s2 g2, hd, rd.ex e2⟩
def chars (z : Str) : List D := (cs z).map fun c => .str ⟨#[c]⟩
theorem itd_str {z : Str} : ItD K r G (Its z) (chars z) := by
  have w : Walk (Its z) (chars z).length (fun H => Ex G H) (fun i H v H' => H' = H ∧ ∃ c, z.cps[i]? = some c ∧ v = .str ⟨#[c]⟩) := by
    have e : (chars z).length = z.cps.size := by simp [chars]
    rw [e]
    exact walk_str.mono (fun _ _ => trivial) fun _ _ _ _ _ _ y => y
  refine ⟨_, w, fun i H x H' hi y G2 e2 s2 g2 => ?_⟩
  obtain ⟨rfl, c, hc, rfl⟩ := y
  refine ⟨G2, .str ⟨#[c]⟩, Ext.refl s2 g2, ?_, .str _⟩
  have : (cs z)[i]? = some c := by simpa using hc
  rw [chars, List.getElem?_map, this]
  rfl
/-- lo, lo + 1, .. -/
def rngL (lo : Int) (n : Nat) : List D := (List.range n).map fun i => .int (lo + (i : Nat))
theorem itd_range {lo : Int} {n : Nat} : ItD K r G (Itr lo n) (rngL lo n) := by
  have e : (rngL lo n).length = n := by simp [rngL]
  have w : Walk (Itr lo n) (rngL lo n).length (fun H => Ex G H) (YFn fun i => .int (lo + (i : Nat))) := by
    rw [e]
    exact walk_range.mono (fun _ _ => trivial) fun _ _ _ _ _ _ y => y
  refine ⟨_, w, fun i H x H' hi y G2 e2 s2 g2 => ?_⟩
  obtain ⟨rfl, rfl⟩ := y
  refine ⟨G2, _, Ext.refl s2 g2, ?_, .int _⟩
  rw [rngL, List.getElem?_map, List.getElem?_range (by omega)]
  rfl
end
section
variable {X : Cx} {xk : Xk} {W : WX} {tg e : Expr}
theorem PI.or {t u : TI} (h : PI X tg e t) (h' : PI X tg e u) : PI X tg e (fun σ H R => t σ H R ∨ u σ H R) := ⟨fun pins s σ H R I q => q.elim (h.run pins s σ H R I) (h'.run pins s σ H R I)⟩
def dItL (w : DE) : DA := fun ρ A B => w ρ (fun ρ1 x => ∃ l, x = .lst l ∧ A ρ1 l) B
def dItT (w : DE) : DA := fun ρ A B => w ρ (fun ρ1 x => ∃ l, x = .tup l ∧ A ρ1 l) B
def dItS (w : DE) : DA := fun ρ A B => w ρ (fun ρ1 x => ∃ z, x = .str z ∧ A ρ1 (chars z)) B
theorem pid_list {w : DE} (h : PI X tg e (iList X.K (rdE X.K xk W w))) : PID X xk W tg e (dItL w) := PI.to h fun σ H R q => by
  obtain ⟨c, ρ, G, A, B, s, q, kv, kx⟩ := q
  refine ⟨c, ρ, G, _, B, s, q, fun ρ1 x q1 v1 G1 H1 s1 e1 r1 => ?_, kx⟩
  obtain ⟨l, rfl, q1⟩ := q1
  cases r1 with
  | lst h1 h2 => exact ⟨_, rfl, ⟨_, SqL.of (s1.sub _ _ h1)⟩, kv _ _ q1 _ _ _ s1 e1 (itd_list h1 h2)⟩
theorem pid_tup {w : DE} (h : PI X tg e (iTup X.K (rdE X.K xk W w))) : PID X xk W tg e (dItT w) := PI.to h fun σ H R q => by
  obtain ⟨c, ρ, G, A, B, s, q, kv, kx⟩ := q
  refine ⟨c, ρ, G, _, B, s, q, fun ρ1 x q1 v1 G1 H1 s1 e1 r1 => ?_, kx⟩
  obtain ⟨l, rfl, q1⟩ := q1
  cases r1 with
  | tup h1 h2 => exact ⟨_, rfl, ⟨_, ex_seqT s1.sub h1⟩, kv _ _ q1 _ _ _ s1 e1 (itd_tup h1 h2)⟩
theorem pid_str {w : DE} (h : PI X tg e (iStr (rdE X.K xk W w))) : PID X xk W tg e (dItS w) := PI.to h fun σ H R q => by
  obtain ⟨c, ρ, G, A, B, s, q, kv, kx⟩ := q
  refine ⟨c, ρ, G, _, B, s, q, fun ρ1 x q1 v1 G1 H1 s1 e1 r1 => ?_, kx⟩
  obtain ⟨z, rfl, q1⟩ := q1
  cases r1 with
  | str z => exact ⟨z, rfl, kv _ _ q1 _ _ _ s1 e1 itd_str⟩
/-- a list, a tuple or a text -/
def dItA (w : DE) : DA := fun ρ A B => dItL w ρ A B ∨ dItT w ρ A B ∨ dItS w ρ A B
theorem pid_any {w : DE} (h1 : PI X tg e (iList X.K (rdE X.K xk W w))) (h2 : PI X tg e (iTup X.K (rdE X.K xk W w))) (h3 : PI X tg e (iStr (rdE X.K xk W w))) : PID X xk W tg e (dItA w) :=
  PI.to (PI.or (pid_list h1) (PI.or (pid_tup h2) (pid_str h3))) fun σ H R q => by
    obtain ⟨c, ρ, G, A, B, s, q, k⟩ := q
    rcases q with q | q | q
    · exact .inl ⟨c, ρ, G, A, B, s, q, k⟩
    · exact .inr (.inl ⟨c, ρ, G, A, B, s, q, k⟩)
    · exact .inr (.inr ⟨c, ρ, G, A, B, s, q, k⟩)
/-- range(n) -/
def dR1 (w : DA) : DA := fun ρ A B => w ρ (fun ρ1 xs => ∃ j : Int, xs = [.int j] ∧ -(2 ^ 62) ≤ j ∧ j < 2 ^ 62 ∧ A ρ1 (rngL 0 j.toNat)) B
def dR2 (w : DA) : DA := fun ρ A B => w ρ (fun ρ1 xs => ∃ i j : Int, xs = [.int i, .int j] ∧ (-(2 ^ 62) ≤ i ∧ i < 2 ^ 62 ∧ -(2 ^ 62) ≤ j ∧ j < 2 ^ 62) ∧ A ρ1 (rngL i (j - i).toNat)) B
theorem pid_r1 {w : DA} (h : PI X tg e (iRng1 (rdA X.K xk W w))) : PID X xk W tg e (dR1 w) := PI.to h fun σ H R q => by
  obtain ⟨c, ρ, G, A, B, s, q, kv, kx⟩ := q
  refine ⟨c, ρ, G, _, B, s, q, fun ρ1 x q1 v1 G1 H1 s1 e1 r1 => ?_, kx⟩
  obtain ⟨j, rfl, h1, h2, q1⟩ := q1
  cases r1 with
  | cons a b => cases a; cases b; exact ⟨j, rfl, h1, h2, kv _ _ q1 _ _ _ s1 e1 itd_range⟩
theorem pid_r2 {w : DA} (h : PI X tg e (iRng2 (rdA X.K xk W w))) : PID X xk W tg e (dR2 w) := PI.to h fun σ H R q => by
  obtain ⟨c, ρ, G, A, B, s, q, kv, kx⟩ := q
  refine ⟨c, ρ, G, _, B, s, q, fun ρ1 x q1 v1 G1 H1 s1 e1 r1 => ?_, kx⟩
  obtain ⟨i, j, rfl, h1, q1⟩ := q1
  cases r1 with
  | cons a b => cases a; cases b with
    | cons a b => cases a; cases b; exact ⟨i, j, rfl, h1, kv _ _ q1 _ _ _ s1 e1 itd_range⟩
end
/-! ### comprehensions -/
def Dc.hold (c : Dc) (a : Addr) (vs : HO) : Dc := { c with F := upd c.F a vs }
def wipeR (ρ : Rho) : List Nat → Rho
  | [] => ρ
  | v :: vs => (wipeR ρ vs).set v .no
section
variable {K : PySem.W.Frag} {xk : Xk} {c : Dc} {ρ : Rho} {σ : L2.St} {G H G' H' : Hp} {a : Addr} {l : Ow} {vs : HO}
theorem SR.hold (s : SR K xk c ρ σ G H) (t : Tmp K c ρ σ G H a l) (h : H a = some vs) : SR K xk (c.hold a vs) ρ σ G H where
  len := s.len
  sub := s.sub
  frm := fun b o e => by
    by_cases z : b = a
    · subst z
      have : upd c.F b vs b = some o := e
      rw [upd_same] at this
      cases this
      exact h
    · have : upd c.F a vs b = some o := e
      rw [upd_ne z] at this
      exact s.frm _ _ this
  g0 := s.g0
  nw := fun b e1 e2 => by
    by_cases z : b = a
    · rw [z]; exact t.g
    · have : upd c.F a vs b ≠ none := e1
      rw [upd_ne z] at this
      exact s.nw b this e2
  rg := fun x e => by
    obtain ⟨h1, h2, h3⟩ := s.rg x e
    refine ⟨h1, h2, ?_⟩
    show upd c.F a vs x = none
    rw [upd_ne (fun z : x = a => t.r (z ▸ e))]
    exact h3
  sl := fun i x hx => by
    obtain ⟨v, hv, q⟩ := s.sl i x hx
    refine ⟨v, hv, ?_⟩
    cases x with
    | no => trivial
    | d x => exact q
    | o l' =>
      obtain ⟨b, us, q1, q2, q3, q4, q5, q6⟩ := q
      subst q1
      refine ⟨b, us, rfl, q2, q3, q4, ?_, q6⟩
      show upd c.F a vs b = none
      rw [upd_ne (fun z : b = a => t.no i l' hx (z ▸ hv))]
      exact q5
    | x y => exact q
  ap := s.ap
theorem SR.unhold (s : SR K xk (c.hold a vs) ρ σ G H) (hf : c.F a = none) (hg : c.G0 a = none) (hr : c.r ≠ some a) (hl : OwR K c.r G vs l) (hi : ∀ C fs, l = .i C fs → c.me = some a) : SR K xk c ρ σ G H ∧ Tmp K c ρ σ G H a l ∧ H a = some vs := by
  have ha : H a = some vs := s.frm _ _ (show upd c.F a vs a = some vs from upd_same)
  have hu : ∀ b o, c.F b = some o → upd c.F a vs b = some o := fun b o e => by
    rw [upd_ne (fun z : b = a => by rw [z, hf] at e; cases e)]; exact e
  have own : ∀ (i : Nat) (l' : Ow), ρ[i]? = some (Sl.o l') → σ[i]? = some (some (V.ref a)) → False := fun i l' h1 h2 => by
    obtain ⟨v, hv, b, us, q1, q2, q3, q4, q5, q6⟩ := s.sl i _ h1
    rw [h2] at hv
    cases hv
    cases q1
    have : upd c.F a vs a = none := q5
    rw [upd_same] at this
    cases this
  refine ⟨{ len := s.len, sub := s.sub, frm := fun b o e => s.frm b o (hu b o e), g0 := s.g0, nw := fun b e1 e2 => s.nw b ?_ e2, rg := fun x e => ?_, sl := fun i x hx => ?_, ap := s.ap }, ⟨⟨vs, ha, hl⟩, s.nw a ?_ hg, hf, hr, hi, own⟩, ha⟩
  · cases e : c.F b with
    | none => exact absurd e e1
    | some o =>
      show upd c.F a vs b ≠ none
      rw [hu b o e]
      exact nofun
  · obtain ⟨h1, h2, h3⟩ := s.rg x e
    refine ⟨h1, h2, ?_⟩
    cases q : c.F x with
    | none => rfl
    | some o =>
      have : upd c.F a vs x = none := h3
      rw [hu x o q] at this
      cases this
  · obtain ⟨v, hv, q⟩ := s.sl i x hx
    refine ⟨v, hv, ?_⟩
    cases x with
    | no => trivial
    | d x => exact q
    | o l' =>
      obtain ⟨b, us, q1, q2, q3, q4, q5, q6⟩ := q
      refine ⟨b, us, q1, q2, q3, q4, ?_, q6⟩
      cases q : c.F b with
      | none => rfl
      | some o =>
        have : upd c.F a vs b = none := q5
        rw [hu b o q] at this
        cases this
    | x y => exact q
  · show upd c.F a vs a ≠ none
    rw [upd_same]
    exact nofun
theorem SR.wipe (s : SR K xk c ρ σ G H) : ∀ ws : List Nat, SR K xk c (wipeR ρ ws) (L2.wipe σ ws) G H
  | [] => s
  | w :: ws => (s.wipe ws).forget
theorem wipeR_in {i : Nat} : ∀ {vs : List Nat} {ρ : Rho}, i ∈ vs → ∀ {x : Sl}, (wipeR ρ vs)[i]? = some x → x = .no
  | v :: vs, ρ, h, x, e => by
    unfold wipeR at e
    rcases set_get e with ⟨_, z, _⟩ | ⟨ne, e⟩
    · exact z.symm
    · rcases List.mem_cons.mp h with z | z
      · exact absurd z.symm ne
      · exact wipeR_in z e
theorem wipeR_out {i : Nat} : ∀ {vs : List Nat} {ρ : Rho}, i ∉ vs → (wipeR ρ vs)[i]? = ρ[i]?
  | [], _, _ => rfl
  | v :: vs, ρ, h => by
    have h1 : v ≠ i := fun e => h (by rw [e]; exact List.mem_cons_self)
    have h2 : i ∉ vs := fun m => h (List.mem_cons_of_mem _ m)
    unfold wipeR
    rw [List.getElem?_set_ne h1]
    exact wipeR_out h2
theorem wipeR_length (ρ : Rho) : ∀ vs : List Nat, (wipeR ρ vs).length = ρ.length
  | [] => rfl
  | v :: vs => by unfold wipeR; rw [List.length_set, wipeR_length ρ vs]
/-- what a wiped state says holds of the slots as they are -/
theorem SR.same {ws : List Nat} {σ' : L2.St} (s : SR K xk c ρ σ' G H) (e : L2.wipe σ' ws = L2.wipe σ ws) : SR K xk c (wipeR ρ ws) σ G H where
  len := by
    have := congrArg List.length e
    rw [wipe_length, wipe_length] at this
    rw [wipeR_length, s.len, this]
  sub := s.sub
  frm := s.frm
  g0 := s.g0
  nw := s.nw
  rg := s.rg
  sl := fun i x hx => by
    by_cases hi : i ∈ ws
    · have := wipeR_in hi hx
      subst this
      have hl : i < σ.length := by
        have h1 := (List.getElem?_eq_some_iff.mp hx).1
        have := congrArg List.length e
        rw [wipe_length, wipe_length] at this
        rw [wipeR_length, s.len, this] at h1
        exact h1
      exact ⟨σ[i], List.getElem?_eq_getElem hl, trivial⟩
    · rw [wipeR_out hi] at hx
      obtain ⟨v, hv, q⟩ := s.sl i x hx
      refine ⟨v, ?_, q⟩
      rw [← wipe_out hi, ← e, wipe_out hi]
      exact hv
  ap := fun i j l1 l2 b ne h1 h2 h3 h4 => by
    have out : ∀ (i : Nat) (l1 : Ow), (wipeR ρ ws)[i]? = some (Sl.o l1) → i ∉ ws := fun i l1 h hi => by cases wipeR_in hi h
    have hi := out i l1 h1
    have hj := out j l2 h2
    rw [wipeR_out hi] at h1
    rw [wipeR_out hj] at h2
    rw [← wipe_out hi, ← e, wipe_out hi] at h3
    rw [← wipe_out hj, ← e, wipe_out hj] at h4
    exact s.ap i j l1 l2 b ne h1 h2 h3 h4
end
theorem wipe_idem {σ : L2.St} {vs : List Nat} : L2.wipe (L2.wipe σ vs) vs = L2.wipe σ vs := by
  apply List.ext_getElem?
  intro j
  by_cases hl : j < σ.length
  · by_cases hj : j ∈ vs
    · rw [wipe_in hj hl, wipe_in hj (by rw [wipe_length]; exact hl)]
    · rw [wipe_out hj]
  · rw [List.getElem?_eq_none (by rw [wipe_length, wipe_length]; omega), List.getElem?_eq_none (by rw [wipe_length]; omega)]
theorem tmp_same {ρ : Rho} {σ σ' : L2.St} {ws : List Nat} {a : Addr} (e : L2.wipe σ' ws = L2.wipe σ ws) (h : ∀ (i : Nat) (l' : Ow), ρ[i]? = some (Sl.o l') → σ'[i]? = some (some (V.ref a)) → False) {i : Nat} {l' : Ow} (h1 : (wipeR ρ ws)[i]? = some (Sl.o l')) (h2 : σ[i]? = some (some (V.ref a))) : False := by
  have hi : i ∉ ws := fun hi => by cases wipeR_in hi h1
  rw [wipeR_out hi] at h1
  rw [← wipe_out hi, ← e, wipe_out hi] at h2
  exact h i l' h1 h2
/-- the list in the making is written -/
theorem SR.poke {K : PySem.W.Frag} {xk : Xk} {c : Dc} {ρ ρ' : Rho} {σ σ' : L2.St} {G H : Hp} {a : Addr} {l : Ow} {us : HO} (s : SR K xk c ρ σ G H) (t : Tmp K c ρ' σ' G H a l) (no : ∀ (i : Nat) (l' : Ow), ρ[i]? = some (Sl.o l') → σ[i]? = some (some (V.ref a)) → False) : SR K xk c ρ σ G (upd H a us) where
  len := s.len
  sub := fun b o e => by rw [upd_ne (fun z : b = a => by rw [z, t.g] at e; cases e)]; exact s.sub _ _ e
  frm := fun b o e => by rw [upd_ne (fun z : b = a => by rw [z, t.f] at e; cases e)]; exact s.frm _ _ e
  g0 := s.g0
  nw := s.nw
  rg := fun x e => by
    obtain ⟨⟨u, w, k1, k2⟩, k3, k4⟩ := s.rg x e
    exact ⟨⟨u, w, by rw [upd_ne (fun z : x = a => t.r (z ▸ e))]; exact k1, k2⟩, k3, k4⟩
  sl := fun j x hx => by
    obtain ⟨u, hu, k⟩ := s.sl j x hx
    refine ⟨u, hu, ?_⟩
    cases x with
    | o l2 =>
      obtain ⟨b, ws, k1, k2, k3⟩ := k
      subst k1
      exact ⟨b, ws, rfl, by rw [upd_ne (fun z : b = a => no j l2 hx (z ▸ hu))]; exact k2, k3⟩
    | no => trivial
    | d x => exact k
    | x y => exact k
  ap := s.ap
abbrev W0 : WX := fun _ _ _ _ => False
abbrev noX : DB := fun _ _ => False
theorem kx0 {K : PySem.W.Frag} {xk : Xk} {c : Dc} {G : Hp} {σ : L2.St} : KXl K xk c G σ W0 noX := fun _ _ z => z.elim
/-- P is what holds between the turns: the slots, the list so far -/
def dLc (vs : List Nat) (g : D → Rho → (Rho → Prop) → Prop) (wt we : DE) (l : List D) (A : Rho → Ow → Prop) (ρ : Rho) : Prop := ∃ P : Nat → Rho → List D → Prop, l.length ≤ 1000000 ∧ P 0 (wipeR ρ vs) [] ∧
  (∀ i x ρ acc, l[i]? = some x → P i ρ acc → g x ρ fun ρ2 => wt ρ2 (fun ρ3 t => ∃ b, t = .bl b ∧ if b = true then we ρ3 (fun ρ4 y => P (i + 1) (wipeR ρ4 vs) (acc ++ [y])) noX else P (i + 1) (wipeR ρ3 vs) acc) noX) ∧
  ∀ ρ acc, P l.length ρ acc → A (wipeR ρ vs) (.l acc)
def dYes : DE := dC (.bl true)
def dComp (vs : List Nat) (wi : DA) (g : D → Rho → (Rho → Prop) → Prop) (wt we : DE) : DO := fun ρ A B => wi ρ (fun ρ1 l => dLc vs g wt we l A ρ1) B
section
variable {K : PySem.W.Frag} {xk : Xk} {W : WX} {vs : List Nat} {wi : DA} {g : D → Rho → (Rho → Prop) → Prop} {wt we : DE}
theorem lc_rdT : ∀ σ H Q, rdO K xk W (dComp vs wi g wt we) σ H Q → tLc (rdI K xk W wi) (rdG K xk vs g) (tB (rdE K xk W0 wt)) (rdE K xk W0 we) vs σ H Q := fun σ H Q q => by
  obtain ⟨c, ρ, G, A, B, s, q, kv, kx⟩ := q
  rw [tLc_eq]
  refine ⟨c, ρ, G, _, B, s, q, fun ρ1 l q1 G1 H1 J s1 e1 it => ?_, kx⟩
  obtain ⟨P, hl, p0, ps, pn⟩ := q1
  obtain ⟨Y, wk, hy⟩ := it
  intro L hL
  have t0 := Tmp.of_new (vs := .lst []) (l := .l []) (s1.wipe vs) hL (.l .nil) nofun
  have x0 : Ext c.r G1 H1 G1 (upd H1 L (.lst [])) := Ext.newO s1.sub s1.Rg hL
  have gL : c.G0 L = none := s1.g0.free t0.g
  refine lc_it wk (Qd := fun H => Q (.ref L) H) (fun i H' => i ≤ l.length ∧ ∃ ρ' G' acc, SR K xk c ρ' (L2.wipe σ vs) G' H' ∧ Ex G1 G' ∧ Tmp K c ρ' (L2.wipe σ vs) G' H' L (.l acc) ∧ acc.length ≤ i ∧ P i ρ' acc)
    ⟨Nat.zero_le _, _, _, _, (s1.wipe vs).ext x0, Same.refl _, t0, Nat.le_refl _, p0⟩ (fun i H' _ ⟨_, ρ', G', acc, s', e', _⟩ => e'.trans s'.sub) ?_ ?_
  · rintro i x H2 H3 hi ⟨_, ρ2, G2, acc, s2, e2, t2, hacc, p2⟩ y
    obtain ⟨⟨us, hus, rus⟩, _⟩ := id t2
    cases rus with
    | @l us _ rus =>
    have sh := s2.hold t2 hus
    obtain ⟨G3, d, E3, hd, r3⟩ := hy i H2 x H3 hi y G2 e2 s2.sub s2.Rg
    have s3 := sh.ext E3
    have e3 := e2.trans E3.gg
    refine ⟨c.hold L (.lst us), ρ2, G3, d, _, s3, r3, ps i d ρ2 acc hd p2, fun ρ' q' σ' s' hw => ⟨?_, ?_⟩⟩
    · rw [hw]
      exact wipe_idem
    refine ⟨c.hold L (.lst us), ρ', G3, _, noX, s', q', fun ρ4 t4 q4 v4 G4 H4 s4 e4 r4 => ?_, kx0⟩
    obtain ⟨b, rfl, q4⟩ := q4
    cases r4
    refine ⟨b, rfl, ?_⟩
    have back : ∀ {ρ5 G5 H5 σ5}, SR K xk (c.hold L (.lst us)) ρ5 σ5 G5 H5 → Ex G4 G5 → SR K xk c ρ5 σ5 G5 H5 ∧ Tmp K c ρ5 σ5 G5 H5 L (.l acc) ∧ H5 L = some (.lst us) := fun s5 e5 =>
      s5.unhold t2.f gL t2.r (.l (rus.ex (E3.gg.trans (e4.trans e5)))) nofun
    have hwσ : L2.wipe σ' vs = L2.wipe σ vs := by rw [hw]; exact wipe_idem
    have wid : L2.wipe σ' vs = L2.wipe (L2.wipe σ vs) vs := hw
    cases b with
    | true =>
      rw [if_pos rfl] at q4
      refine (if_pos rfl).mpr ⟨c.hold L (.lst us), ρ4, G4, _, noX, s4, q4, fun ρ5 y5 q5 v5 G5 H5 s5 e5 r5 => ?_, kx0⟩
      obtain ⟨sb, tb, hLs⟩ := back s5 e5
      refine ⟨us, hLs, ?_, ?_, wipeR ρ5 vs, G5, acc ++ [y5], ?_, e3.trans (e4.trans e5), ?_, ?_, q5⟩
      · rw [rus.length]
        exact big_lt (by omega)
      · exact hi
      · have := (sb.same (σ := L2.wipe σ vs) wid)
        exact this.poke tb fun j l' h1 h2 => tmp_same wid tb.no h1 h2
      · obtain ⟨⟨us', h1, h2⟩, t1, t2', t3, _, t4⟩ := tb
        rw [hLs] at h1
        cases h1
        cases h2 with
        | l h2 =>
        exact ⟨⟨.lst (us ++ [v5]), upd_same, .l (h2.append (.cons r5 .nil))⟩, t1, t2', t3, nofun, fun j l' h1 h2 => tmp_same wid t4 h1 h2⟩
      · rw [List.length_append]; simp; omega
    | false =>
      rw [if_neg (by decide)] at q4
      obtain ⟨sb, tb, hLs⟩ := back s4 (Same.refl _)
      refine (if_neg (by decide)).mpr ⟨hi, wipeR ρ4 vs, G4, acc, sb.same (σ := L2.wipe σ vs) wid, e3.trans e4, ?_, by omega, q4⟩
      exact ⟨tb.ex, tb.g, tb.f, tb.r, nofun, fun j l' h1 h2 => tmp_same wid tb.no h1 h2⟩
  · rintro H2 ⟨_, ρ2, G2, acc, s2, e2, t2, _, p2⟩
    have s3 : SR K xk c (wipeR ρ2 vs) σ G2 H2 := s2.same wipe_idem
    refine kv _ _ (pn _ _ p2) _ _ _ s3 (e1.trans e2) ⟨t2.ex, t2.g, t2.f, t2.r, nofun, fun j l' h1 h2 => tmp_same wipe_idem t2.no h1 h2⟩
theorem lc_rd : ∀ σ H Q, rdO K xk W (dComp vs wi g dYes we) σ H Q → tLc (rdI K xk W wi) (rdG K xk vs g) tYes (rdE K xk W0 we) vs σ H Q := fun σ H Q q => by
  have h := lc_rdT σ H Q q
  rw [tLc_eq] at h ⊢
  obtain ⟨c, ρ, G, A, B, s, q, kv, kx⟩ := h
  refine ⟨c, ρ, G, A, B, s, q, fun ρ1 l q1 G1 H1 J s1 e1 it => ?_, kx⟩
  have h2 := kv ρ1 l q1 G1 H1 J s1 e1 it
  intro L hL
  obtain ⟨Wt, w0, w1⟩ := h2 L hL
  refine ⟨Wt, w0, fun i m H' hw => ?_⟩
  rcases w1 i m H' hw with h | ⟨h1, Nx, h2, h3⟩
  · exact .inl h
  · refine .inr ⟨h1, Nx, h2, fun x H'' y => ?_⟩
    obtain ⟨c', ρ', G', d', A', s', r', q', k'⟩ := h3 x H'' y
    refine ⟨c', ρ', G', d', A', s', r', q', fun ρ2 a2 σ2 s2 w2 => ?_⟩
    obtain ⟨z1, z2⟩ := k' ρ2 a2 σ2 s2 w2
    refine ⟨z1, ?_⟩
    obtain ⟨c3, ρ3, G3, A3, B3, s3, q3, kv3, _⟩ := z2
    obtain ⟨b, hb, z⟩ := kv3 _ _ q3 _ _ _ s3 (Same.refl _) (.bl true)
    cases hb
    exact z
end
section
variable {X : Cx} {xk : Xk} {W : WX} {e : Expr} {st : Stmt} {vs : List Nat} {wi : DA} {g : D → Rho → (Rho → Prop) → Prop} {wt we : DE} {i : Nat}
theorem pdo_lc (h : PE X e (tLc (rdI X.K xk W wi) (rdG X.K xk vs g) tYes (rdE X.K xk W0 we) vs)) : PDO X xk W e (dComp vs wi g dYes we) := PE.to h lc_rd
theorem pdo_lcT (h : PE X e (tLc (rdI X.K xk W wi) (rdG X.K xk vs g) (tB (rdE X.K xk W0 wt)) (rdE X.K xk W0 we) vs)) : PDO X xk W e (dComp vs wi g wt we) := PE.to h lc_rdT
theorem asg_to {t t' : TE} (h : PS X st (tAsg t (gName i))) (k : ∀ σ H Q, t' σ H Q → t σ H Q) : PS X st (tAsg t' (gName i)) := PS.to h fun E σ H q => k _ _ _ q
theorem psd_lcO (h : PS X st (tAsg (tLc (rdI X.K xk W wi) (rdG X.K xk vs g) tYes (rdE X.K xk W0 we) vs) (gName i))) : PSD X xk W st (dSetO i (dComp vs wi g dYes we)) := psd_setO (asg_to h lc_rd)
theorem psd_lcOT (h : PS X st (tAsg (tLc (rdI X.K xk W wi) (rdG X.K xk vs g) (tB (rdE X.K xk W0 wt)) (rdE X.K xk W0 we) vs) (gName i))) : PSD X xk W st (dSetO i (dComp vs wi g wt we)) := psd_setO (asg_to h lc_rdT)
theorem frz_rd {w : DO} : ∀ σ H Q, rdE X.K xk W (dF w) σ H Q → rdO X.K xk W w σ H Q := fun σ H Q q => by
  obtain ⟨c, ρ, G, A, B, s, q, kv, kx⟩ := q
  refine ⟨c, ρ, G, _, B, s, q, fun ρ1 l q1 a G1 H1 s1 e1 t1 => ?_, kx⟩
  obtain ⟨G', s2, e, r⟩ := s1.frz t1
  exact kv _ _ q1 _ _ _ s2 (e1.trans e) r
theorem psd_lc (h : PS X st (tAsg (tLc (rdI X.K xk W wi) (rdG X.K xk vs g) tYes (rdE X.K xk W0 we) vs) (gName i))) : PSD X xk W st (dSet i (dF (dComp vs wi g dYes we))) := psd_set (asg_to (asg_to h lc_rd) frz_rd)
theorem psd_lcT (h : PS X st (tAsg (tLc (rdI X.K xk W wi) (rdG X.K xk vs g) (tB (rdE X.K xk W0 wt)) (rdE X.K xk W0 we) vs) (gName i))) : PSD X xk W st (dSet i (dF (dComp vs wi g wt we))) := psd_set (asg_to (asg_to h lc_rdT) frz_rd)
end
/-! ### how comprehensions are answered -/
section
variable {j : Nat} {we wt : DE} {l : List D} {A : Rho → Ow → Prop} {ρ : Rho}
theorem wipe1 {x : Sl} : wipeR ((wipeR ρ [j]).set j x) [j] = wipeR ρ [j] := by
  show ((ρ.set j .no).set j x).set j .no = ρ.set j .no
  rw [List.set_set, List.set_set]
/-- each element is f of its item -/
theorem lc_map (f : D → D) (hl : l.length ≤ 1000000) (h : ∀ x ∈ l, ∀ Q : DQ, Q ((wipeR ρ [j]).set j (.d x)) (f x) → we ((wipeR ρ [j]).set j (.d x)) Q noX) (hA : A (wipeR ρ [j]) (.l (l.map f))) : dLc [j] (gN j) dYes we l A ρ := by
  refine ⟨fun i ρ' acc => ρ' = wipeR ρ [j] ∧ acc = (l.take i).map f, hl, ⟨rfl, rfl⟩, fun i x ρ' acc hx hp => ?_, fun ρ' acc hp => ?_⟩
  · obtain ⟨rfl, rfl⟩ := hp
    refine ⟨true, rfl, (if_pos rfl).mpr (h x (List.mem_of_getElem? hx) _ ⟨wipe1, ?_⟩)⟩
    rw [List.take_add_one, hx, List.map_append]
    rfl
  · obtain ⟨rfl, rfl⟩ := hp
    rw [List.take_length]
    have e : wipeR (wipeR ρ [j]) [j] = wipeR ρ [j] := by
      show (ρ.set j .no).set j .no = ρ.set j .no
      rw [List.set_set]
    rw [e]
    exact hA
/-- each element that passes is f of its item -/
theorem lc_filter (p : D → Bool) (f : D → D) (hl : l.length ≤ 1000000) (ht : ∀ x ∈ l, ∀ Q : DQ, Q ((wipeR ρ [j]).set j (.d x)) (.bl (p x)) → wt ((wipeR ρ [j]).set j (.d x)) Q noX)
    (h : ∀ x ∈ l, p x = true → ∀ Q : DQ, Q ((wipeR ρ [j]).set j (.d x)) (f x) → we ((wipeR ρ [j]).set j (.d x)) Q noX) (hA : A (wipeR ρ [j]) (.l ((l.filter p).map f))) : dLc [j] (gN j) wt we l A ρ := by
  refine ⟨fun i ρ' acc => ρ' = wipeR ρ [j] ∧ acc = ((l.take i).filter p).map f, hl, ⟨rfl, rfl⟩, fun i x ρ' acc hx hp => ?_, fun ρ' acc hp => ?_⟩
  · obtain ⟨rfl, rfl⟩ := hp
    refine ht x (List.mem_of_getElem? hx) _ ⟨_, rfl, ?_⟩
    cases hpx : p x with
    | true =>
      refine (if_pos rfl).mpr (h x (List.mem_of_getElem? hx) hpx _ ⟨wipe1, ?_⟩)
      rw [List.take_add_one, hx, List.filter_append, List.map_append]
      simp [hpx]
    | false =>
      refine (if_neg (by decide)).mpr ⟨wipe1, ?_⟩
      rw [List.take_add_one, hx, List.filter_append, List.map_append]
      simp [hpx]
  · obtain ⟨rfl, rfl⟩ := hp
    rw [List.take_length]
    have e : wipeR (wipeR ρ [j]) [j] = wipeR ρ [j] := by
      show (ρ.set j .no).set j .no = ρ.set j .no
      rw [List.set_set]
    rw [e]
    exact hA
/-- each element is one of which E holds -/
theorem lc_drawn (E : D → D → Prop) (hl : l.length ≤ 1000000) (h : ∀ x ∈ l, ∀ Q : DQ, (∀ y, E x y → Q ((wipeR ρ [j]).set j (.d x)) y) → we ((wipeR ρ [j]).set j (.d x)) Q noX)
    (hA : ∀ ys : List D, ys.length = l.length → (∀ y ∈ ys, ∃ x ∈ l, E x y) → A (wipeR ρ [j]) (.l ys)) : dLc [j] (gN j) dYes we l A ρ := by
  refine ⟨fun i ρ' acc => ρ' = wipeR ρ [j] ∧ acc.length = (l.take i).length ∧ ∀ y ∈ acc, ∃ x ∈ l, E x y, hl, ⟨rfl, rfl, nofun⟩, fun i x ρ' acc hx hp => ?_, fun ρ' acc hp => ?_⟩
  · obtain ⟨rfl, hlen, ha⟩ := hp
    refine ⟨true, rfl, (if_pos rfl).mpr (h x (List.mem_of_getElem? hx) _ fun y hy => ⟨wipe1, ?_, fun z hz => ?_⟩)⟩
    · rw [List.take_add_one, hx, List.length_append, List.length_append, hlen]
      rfl
    · rcases List.mem_append.mp hz with hz | hz
      · exact ha z hz
      · rw [List.mem_singleton.mp hz]
        exact ⟨x, List.mem_of_getElem? hx, hy⟩
  · obtain ⟨rfl, hlen, ha⟩ := hp
    rw [List.take_length] at hlen
    have e : wipeR (wipeR ρ [j]) [j] = wipeR ρ [j] := by
      show (ρ.set j .no).set j .no = ρ.set j .no
      rw [List.set_set]
    rw [e]
    exact hA acc hlen ha
end
/-! ### calls of defs -/
abbrev DSp := List D → (D → Prop) → (Xd → Prop) → Prop
/-- a def's promise by data -/
def spD (K : PySem.W.Frag) (n : Nat) (spec : DSp) : Sp := fun vs H Q E => ∃ r G ds A B, Ex G H ∧ Rg r G H ∧ RepL K r G vs ds ∧ ds.length = n ∧ spec ds A B ∧
  (∀ d, A d → ∀ v G' H', Ext r G H G' H' → Rep K r G' v d → Q v H') ∧ (∀ x, B x → ∀ G' H' cls dx, Ext r G H G' H' → RepX K r G' x cls dx → E cls dx H')
def dCall (n : Nat) (spec : DSp) (w : DA) : DE := fun ρ A B => w ρ (fun ρ1 xs => xs.length = n ∧ spec xs (A ρ1) (B ρ1)) B
section
variable {X : Cx} {xk : Xk} {W : WX} {e : Expr}
theorem pd_call {n m : Nat} {spec : DSp} {w : DA} (h : PE X e (tOX n 0 (spD X.K m spec) gPos W (rdA X.K xk W w) tNil)) (hn : n = m := by rfl) : PD X xk W e (dCall n spec w) := PE.to h fun σ H Q q => by
  subst hn
  obtain ⟨c, ρ, G, A, B, s, q, kv, kx⟩ := q
  refine ⟨c, ρ, G, _, B, s, q, fun ρ1 xs q1 v1 G1 H1 s1 e1 r1 => ?_, kx⟩
  refine ⟨by rw [r1.length]; exact q1.1, rfl, c.r, G1, xs, _, _, s1.sub, s1.Rg, r1, q1.1, q1.2, fun d hd v G' H' x r => kv _ _ hd _ _ _ (s1.ext x) (e1.trans x.gg) r, fun y hy G' H' cls dx x r => kx _ _ hy _ _ _ _ (s1.ext x) (e1.trans x.gg) r⟩
theorem pd_call0 {spec : DSp} (h : PE X e (tOX 0 0 (spD X.K 0 spec) gPos W tNil tNil)) : PD X xk W e (dCall 0 spec dNil) := PE.to h fun σ H Q q => by
  obtain ⟨c, ρ, G, A, B, s, q, kv, kx⟩ := q
  exact ⟨rfl, rfl, c.r, G, [], _, _, s.sub, s.Rg, .nil, rfl, q.2, fun d hd v G' H' x r => kv _ _ hd _ _ _ (s.ext x) x.gg r, fun y hy G' H' cls dx x r => kx _ _ hy _ _ _ _ (s.ext x) x.gg r⟩
def CallD (K : PySem.W.Frag) (r : List V → Hp → VK → Prop) (f : List D → (D → Prop) → Prop) : Prop := ∀ r0 G H xs ds (A : D → Prop) (Q : VK), Ex G H → Rg r0 G H → RepL K r0 G xs ds → f ds A →
  (∀ z, A z → ∀ v G' H', Ext r0 G H G' H' → Rep K r0 G' v z → Q v H') → r xs H Q
def dFn (f : List D → (D → Prop) → Prop) (w : DA) : DE := fun ρ A B => w ρ (fun ρ1 xs => f xs (A ρ1)) B
theorem pd_fn {r : List V → Hp → VK → Prop} {f : List D → (D → Prop) → Prop} {w : DA} (hd : CallD X.K r f) (h : PE X e (tCB r (rdA X.K xk W w))) : PD X xk W e (dFn f w) := PE.to h fun σ H Q q => by
  obtain ⟨c, ρ, G, A, B, s, q, kv, kx⟩ := q
  refine ⟨c, ρ, G, _, B, s, q, fun ρ1 x q1 v1 G1 H1 s1 e1 r1 => ?_, kx⟩
  exact hd c.r G1 H1 _ _ _ _ s1.sub s1.Rg r1 q1 fun z hz v G3 H3 e3 r3 => kv _ _ hz _ _ _ (s1.ext e3) (e1.trans e3.gg) r3
theorem CallR.or {f : Value} {r r' : List V → Hp → VK → Prop} (h : CallR X f r) (h' : CallR X f r') : CallR X f (fun xs H Q => r xs H Q ∨ r' xs H Q) := fun pins s σ H xs us Q I rx q => q.elim (h pins s σ H xs us Q I rx) (h' pins s σ H xs us Q I rx)
end
/-- a body's start -/
def rho0 (n : Nat) (ds : List D) : Rho := ds.map Sl.d ++ List.replicate (n - ds.length) .no
theorem sr_start {K : PySem.W.Frag} {r : Option Addr} {G H : Hp} {N : List Str} {vs : List V} {ds : List D} (sub : Ex G H) (g : Rg r G H) (h : RepL K r G vs ds) : SR K none { r := r, F := fun b => if r = some b then none else H b, G0 := G } (rho0 N.length ds) (L2.start N vs) G H where
  len := by
    rw [start_eq, rho0, List.length_append, List.length_append, List.length_map, List.length_map, List.length_replicate, List.length_replicate, h.length]
  sub := sub
  frm := fun b o e => by
    have e : (if r = some b then none else H b) = some o := e
    split at e
    · cases e
    · exact e
  g0 := Same.refl _
  nw := fun b _ e => e
  rg := fun a e => ⟨(g a e).1, (g a e).2, if_pos e⟩
  sl := fun i x hx => by
    rw [start_eq]
    unfold rho0 at hx
    rcases Nat.lt_or_ge i ds.length with hi | hi
    · rw [List.getElem?_append_left (by rw [List.length_map]; exact hi), List.getElem?_map, List.getElem?_eq_getElem hi] at hx
      cases hx
      obtain ⟨v, hv, rv⟩ := h.get (List.getElem?_eq_getElem hi)
      refine ⟨some v, ?_, v, rfl, rv⟩
      rw [List.getElem?_append_left (by rw [List.length_map, h.length]; exact hi), List.getElem?_map, hv]
      rfl
    · rw [List.getElem?_append_right (by rw [List.length_map]; exact hi), List.length_map, List.getElem?_replicate] at hx
      split at hx
      · rename_i h2
        cases hx
        refine ⟨none, ?_, trivial⟩
        rw [List.getElem?_append_right (by rw [List.length_map, h.length]; exact hi), List.length_map, h.length, List.getElem?_replicate, if_pos h2]
      · cases hx
  ap := fun i j l l' a _ h1 _ _ _ => by
    unfold rho0 at h1
    rcases Nat.lt_or_ge i ds.length with hi | hi
    · rw [List.getElem?_append_left (by rw [List.length_map]; exact hi), List.getElem?_map, List.getElem?_eq_getElem hi] at h1
      cases h1
    · rw [List.getElem?_append_right (by rw [List.length_map]; exact hi), List.length_map, List.getElem?_replicate] at h1
      split at h1 <;> cases h1
theorem sr_end {K : PySem.W.Frag} {xk : Xk} {r : Option Addr} {G H G' H' : Hp} {ρ : Rho} {σ : L2.St} (s : SR K xk { r := r, F := fun b => if r = some b then none else H b, G0 := G } ρ σ G' H') : Ext r G H G' H' where
  gg := s.g0
  sub := s.sub
  kp := fun b o e n => s.frm b o (show (if r = some b then none else H b) = some o by rw [if_neg n]; exact e)
  nf := fun b h1 h2 => by
    by_cases n : r = some b
    · exact (s.rg b n).2.1
    · exact s.nw b (show (if r = some b then none else H b) ≠ none by rw [if_neg n]; exact h1) h2
  rg := fun a e => (s.rg a e).1
def endsF (Q : D → Prop) (B : Xd → Prop) : DEnds := ⟨fun _ => Q .non, fun _ => Q, fun _ => False, fun _ => False, fun _ => B⟩
/-- a def by its body, by data -/
theorem fo_mk {g : Bool} {P : Program} {w : World} {K : PySem.W.Frag} {mg : Str → Option Value} {base : Heap} {k n m : Nat} {d : He.DefD} {N ps : List Str} {spec : DSp} {fd : FuncData} {wb : DS}
    (F : FunD K d.name d.qual d.params d.body d.scope (d.dvs K) (d.kws K) (He.fAd K d.at_) fd) (S : FnScope N ps d.scope) (hn : ps.length = n) (hm : N.length = m)
    (hbody : ∀ (cdv : Value) (A : Around) (outer : List Env) (s : Shared) (H : Hp) (E : XK), Gd g (A.deeper (envOfC d.qual d.scope s.heap.objs.size (He.fAd K d.at_) cdv)) → Room k (A.deeper (envOfC d.qual d.scope s.heap.objs.size (He.fAd K d.at_) cdv)) →
      PSDs (cxOf (L2.CX P w) P w K mg base N d.qual d.scope (He.fAd K d.at_) cdv A outer s H E) none (fun cls dx _ H' => E cls dx H') d.body wb)
    (hpure : ∀ ds Q B, ds.length = n → spec ds Q B → wb (endsF Q B) (rho0 m ds)) : Fo g P w K mg base (L2.CX P w) (k + 1) d ps (spD K n spec) := by
  subst hm
  refine ⟨fd, Fq.mk' F S (fun vs H Q E h => ?_) (fun cdv A outer s H vs Q E hg hr h => ?_), F⟩
  · obtain ⟨r, G, ds, A, B, _, _, h1, h2, _⟩ := h
    rw [h1.length, h2, hn]
  · obtain ⟨r, G, ds, A', B', sub, rg, h1, h2, h3, h4, h5⟩ := h
    refine ⟨_, hbody cdv A outer s H E hg hr, { r := r, F := fun b => if r = some b then none else H b, G0 := G }, rho0 N.length ds, G, endsF A' B', sr_start sub rg h1, hpure ds A' B' h2 h3, ?_⟩
    exact ⟨fun ρ' a σ' G' H' s' _ => h4 _ a _ _ _ (sr_end s') .non, fun ρ' x a σ' v G' H' s' _ r' => h4 _ a _ _ _ (sr_end s') r', fun _ z => z.elim, fun _ z => z.elim, fun ρ' x a σ' G' H' cls dx s' _ r' => h5 _ a _ _ _ _ (sr_end s') r'⟩
end Ab

set_option Elab.async false
set_option linter.all false
set_option maxRecDepth 100000
set_option maxHeartbeats 4000000
/-! DxE: == , != , in of data: flat values, lists, tuples at any depth. -/
namespace Ab
open PySem PySem.Spec PyProof.Rows L2
mutual
/-- == -/
def eqD : D → D → Bool
  | .non, .non => true
  | .bl a, .bl b => a == b
  | .bl a, .int b => (if a then 1 else 0) == b
  | .int a, .bl b => a == (if b then 1 else 0)
  | .int a, .int b => a == b
  | .str a, .str b => a == b
  | .lst a, .lst b => eqL a b
  | .tup a, .tup b => eqL a b
  | _, _ => false
def eqL : List D → List D → Bool
  | [], [] => true
  | x :: xs, y :: ys => eqD x y && eqL xs ys
  | _, _ => false
end
mutual
/-- plain: flat values, lists, tuples -/
def plD : D → Bool
  | .non => true
  | .bl _ => true
  | .int _ => true
  | .str _ => true
  | .lst l => plL l
  | .tup l => plL l
  | _ => false
def plL : List D → Bool
  | [] => true
  | x :: xs => plD x && plL xs
end
mutual
def dpD : D → Nat
  | .lst l => dpL l + 1
  | .tup l => dpL l + 1
  | _ => 0
def dpL : List D → Nat
  | [] => 0
  | x :: xs => max (dpD x) (dpL xs)
end
/-- plain, and not too deep -/
def okD (d : D) : Bool := plD d && decide (dpD d ≤ 60)
mutual
/-- a machine's value is read as data -/
inductive Vd (h : Heap) : Value → D → Prop
  | non : Vd h .none .non
  | bl (b : Bool) : Vd h (.bool b) (.bl b)
  | int (i : Int) (t : Tok) : Vd h (.int i t) (.int i)
  | str (z : Str) (t : Tok) : Vd h (.str z t) (.str z)
  | lst {a : Addr} {us : List Value} {ds : List D} : h.IsList a us.toArray → VdL h us ds → Vd h (.ref a) (.lst ds)
  | tup {a : Addr} {us : List Value} {ds : List D} : h.IsTuple a us.toArray → VdL h us ds → Vd h (.ref a) (.tup ds)
inductive VdL (h : Heap) : List Value → List D → Prop
  | nil : VdL h [] []
  | cons {u : Value} {d : D} {us : List Value} {ds : List D} : Vd h u d → VdL h us ds → VdL h (u :: us) (d :: ds)
end
section
variable {X : Cx} {pins : List (Addr × Obj)} {σ : L2.St} {G H : Hp} {s : Shared} {r : Option Addr}
mutual
theorem Rep.vd (I : Inv X pins σ H s) (e : Ex G H) : ∀ {v : V} {d : D}, Rep X.K r G v d → plD d = true → ∀ {u : Value}, RelV v u → Vd s.heap u d
  | _, _, .non, _, _, q => by cases q; exact .non
  | _, _, .bl b, _, _, q => by cases q; exact .bl b
  | _, _, .int i, _, _, q => by obtain ⟨t, rfl⟩ := q; exact .int i t
  | _, _, .str z, _, _, q => by obtain ⟨t, rfl⟩ := q; exact .str z t
  | _, _, .lst h1 h2, p, _, q => by
    cases q
    obtain ⟨its, rv, pl, _⟩ := I.list (SqL.of (e _ _ h1))
    exact .lst pl.isList (RepL.vd I e h2 p rv)
  | _, _, .tup h1 h2, p, _, q => by
    cases q
    obtain ⟨its, rv, pl, _⟩ := I.tuple (ex_seqT e h1)
    exact .tup pl (RepL.vd I e h2 p rv)
  | _, _, .ty _, p, _, _ => by cases p
  | _, _, .cls _, p, _, _ => by cases p
  | _, _, .rng _, p, _, _ => by cases p
  | _, _, .dict _ _, p, _, _ => by cases p
  | _, _, .obj _ _, p, _, _ => by cases p
theorem RepL.vd (I : Inv X pins σ H s) (e : Ex G H) : ∀ {v : List V} {d : List D}, RepL X.K r G v d → plL d = true → ∀ {u : List Value}, Vals v u → VdL s.heap u d
  | _, _, .nil, _, _, q => by cases q; exact .nil
  | _, _, .cons h1 h2, p, _, q => by
    cases q with
    | cons q1 q2 =>
      have p := Bool.and_eq_true_iff.mp p
      exact .cons (Rep.vd I e h1 p.1 q1) (RepL.vd I e h2 p.2 q2)
end
end
theorem VdL.length {h : Heap} : ∀ {us : List Value} {ds : List D}, VdL h us ds → us.length = ds.length
  | _, _, .nil => rfl
  | _, _, .cons _ q => congrArg (· + 1) q.length
theorem VdL.get {h : Heap} : ∀ {us : List Value} {ds : List D} {i : Nat} {u : Value}, VdL h us ds → us[i]? = some u → ∃ d, ds[i]? = some d ∧ Vd h u d
  | _, _, _, _, .nil, e => by simp at e
  | _, _, 0, _, .cons h _, e => by simp at e; subst e; exact ⟨_, rfl, h⟩
  | _, _, i + 1, _, .cons _ q, e => by
    obtain ⟨v, h1, h2⟩ := VdL.get (i := i) q (by simpa using e)
    exact ⟨v, by simpa using h1, h2⟩
theorem isList_inj {h : Heap} {a : Addr} {x y : Array Value} (p : h.IsList a x) (q : h.IsList a y) : x = y := by
  obtain ⟨o, e, _, n, d⟩ := p
  obtain ⟨o', e', _, n', d'⟩ := q
  rw [e] at e'
  cases e'
  rw [d] at d'
  cases d'
  rfl
theorem isTuple_inj {h : Heap} {a : Addr} {x y : Array Value} (p : h.IsTuple a x) (q : h.IsTuple a y) : x = y := by
  obtain ⟨o, e, _, n, d⟩ := p
  obtain ⟨o', e', _, n', d'⟩ := q
  rw [e] at e'
  cases e'
  rw [d] at d'
  cases d'
  rfl
theorem isList_tuple {h : Heap} {a : Addr} {x y : Array Value} (p : h.IsList a x) (q : h.IsTuple a y) : False := by
  obtain ⟨o, e, c, _⟩ := p
  obtain ⟨o', e', c', _⟩ := q
  rw [e] at e'
  cases e'
  rw [c] at c'
  exact absurd c' (by decide)
mutual
theorem Vd.inj {h : Heap} : ∀ {u : Value} {d e : D}, Vd h u d → Vd h u e → d = e
  | _, _, _, .non, .non => rfl
  | _, _, _, .bl _, .bl _ => rfl
  | _, _, _, .int _ _, .int _ _ => rfl
  | _, _, _, .str _ _, .str _ _ => rfl
  | _, _, _, .lst h1 h2, .lst h3 h4 => by
    have e := congrArg Array.toList (isList_inj h1 h3)
    simp only [List.toList_toArray] at e
    subst e
    rw [VdL.inj h2 h4]
  | _, _, _, .tup h1 h2, .tup h3 h4 => by
    have e := congrArg Array.toList (isTuple_inj h1 h3)
    simp only [List.toList_toArray] at e
    subst e
    rw [VdL.inj h2 h4]
  | _, _, _, .lst h1 _, .tup h3 _ => (isList_tuple h1 h3).elim
  | _, _, _, .tup h1 _, .lst h3 _ => (isList_tuple h3 h1).elim
theorem VdL.inj {h : Heap} : ∀ {u : List Value} {d e : List D}, VdL h u d → VdL h u e → d = e
  | _, _, _, .nil, .nil => rfl
  | _, _, _, .cons h1 h2, .cons h3 h4 => by rw [Vd.inj h1 h3, VdL.inj h2 h4]
end
mutual
theorem Vd.refl {h : Heap} : ∀ {u : Value} {d : D}, Vd h u d → eqD d d = true
  | _, _, .non => rfl
  | _, _, .bl b => by simp [eqD]
  | _, _, .int i _ => by simp [eqD]
  | _, _, .str z _ => by simp [eqD]
  | _, _, .lst _ h2 => by unfold eqD; exact VdL.refl h2
  | _, _, .tup _ h2 => by unfold eqD; exact VdL.refl h2
theorem VdL.refl {h : Heap} : ∀ {u : List Value} {d : List D}, VdL h u d → eqL d d = true
  | _, _, .nil => rfl
  | _, _, .cons h1 h2 => by unfold eqL; rw [Vd.refl h1, VdL.refl h2]; rfl
end
theorem eqL_range : ∀ (xs ys : List D), xs.length = ys.length → ((List.range xs.length).all fun j => eqD (xs.getD j .non) (ys.getD j .non)) = eqL xs ys
  | [], [], _ => rfl
  | x :: xs, y :: ys, h => by
    have ih := eqL_range xs ys (by simpa using h)
    rw [List.length_cons, List.range_succ_eq_map, List.all_cons, List.all_map]
    unfold eqL
    rw [← ih]
    rfl
theorem eqL_len : ∀ (xs ys : List D), xs.length ≠ ys.length → eqL xs ys = false
  | [], [], h => absurd rfl h
  | [], _ :: _, _ => rfl
  | _ :: _, [], _ => rfl
  | x :: xs, y :: ys, h => by
    unfold eqL
    rw [eqL_len xs ys (by simpa using h), Bool.and_false]
section
variable {s : Shared}
theorem VdL.eqs {A : Around} {us ws : List Value} {ds es : List D} (h : VdL s.heap us ds) (k : VdL s.heap ws es) (ih : ∀ d ∈ ds, ∀ (e : D) (u w : Value), Vd s.heap u d → Vd s.heap w e → SeqAt.EqAt A s u w (eqD d e)) :
    ∀ j (h1 : j < us.toArray.size) (h2 : j < ws.toArray.size), SeqAt.EqAt A s us.toArray[j] ws.toArray[j] ((fun j => eqD (ds.getD j .non) (es.getD j .non)) j) := fun j h1 h2 => by
  have l1 : j < us.length := by simpa using h1
  have l2 : j < ws.length := by simpa using h2
  obtain ⟨d, hd, vd⟩ := h.get (List.getElem?_eq_getElem l1)
  obtain ⟨e, he, ve⟩ := k.get (List.getElem?_eq_getElem l2)
  have := ih d (List.mem_of_getElem? hd) e _ _ vd ve
  show SeqAt.EqAt A s us.toArray[j] ws.toArray[j] (eqD (ds.getD j .non) (es.getD j .non))
  rw [List.getD_eq_getElem?_getD, hd, List.getD_eq_getElem?_getD, he]
  simpa using this
theorem dpL_mem : ∀ {ds : List D} {d : D}, d ∈ ds → dpD d ≤ dpL ds
  | x :: xs, d, h => by
    unfold dpL
    rcases List.mem_cons.mp h with rfl | h
    · exact Nat.le_max_left _ _
    · exact Nat.le_trans (dpL_mem h) (Nat.le_max_right _ _)
theorem rc_lst {A : Around} {a b : Addr} {us ws : List Value} {ds es : List D} (hu : A.units < cLine) (h1 : s.heap.IsList a us.toArray) (h2 : s.heap.IsList b ws.toArray) (k1 : VdL s.heap us ds) (k2 : VdL s.heap ws es)
    (ih : ∀ d ∈ ds, ∀ (e : D) (u w : Value), Vd s.heap u d → Vd s.heap w e → SeqAt.EqAt A.in1 s u w (eqD d e)) : SeqAt.RcAt A s (.ref a) (.ref b) (eqL ds es) ∧ SeqAt.RcNeAt A s (.ref a) (.ref b) (!eqL ds es) := by
  by_cases hl : us.length = ws.length
  · have q1 := SeqAt.RcAt.lists h1 h2 (by simpa using hl) hu (k1.eqs k2 ih)
    have q2 := SeqAt.RcNeAt.lists h1 h2 (by simpa using hl) hu (k1.eqs k2 ih)
    have e : (List.range us.toArray.size).all (fun j => eqD (ds.getD j .non) (es.getD j .non)) = eqL ds es := by
      rw [List.size_toArray, k1.length]
      exact eqL_range ds es (by rw [← k1.length, ← k2.length, hl])
    rw [e] at q1 q2
    exact ⟨q1, q2⟩
  · have hl' : (us.toArray.size != ws.toArray.size) = true := by simpa using hl
    rw [eqL_len ds es (by rw [← k1.length, ← k2.length]; exact hl)]
    exact ⟨SeqAt.RcAt.lists_lengths h1 h2 hl' hu, SeqAt.RcNeAt.lists_lengths h1 h2 hl' hu⟩
theorem eqL_min : ∀ (xs ys : List D), ((List.range (min xs.length ys.length)).all (fun j => eqD (xs.getD j .non) (ys.getD j .non)) && xs.length == ys.length) = eqL xs ys := fun xs ys => by
  by_cases h : xs.length = ys.length
  · rw [h, Nat.min_self, ← h, eqL_range xs ys h, beq_self_eq_true, Bool.and_true]
  · rw [eqL_len xs ys h, beq_false_of_ne h, Bool.and_false]
theorem rc_tup {A : Around} {a b : Addr} {us ws : List Value} {ds es : List D} (hu : A.units < cLine) (h1 : s.heap.IsTuple a us.toArray) (h2 : s.heap.IsTuple b ws.toArray) (k1 : VdL s.heap us ds) (k2 : VdL s.heap ws es)
    (ih : ∀ d ∈ ds, ∀ (e : D) (u w : Value), Vd s.heap u d → Vd s.heap w e → SeqAt.EqAt A.in1 s u w (eqD d e)) : SeqAt.RcAt A s (.ref a) (.ref b) (eqL ds es) ∧ SeqAt.RcNeAt A s (.ref a) (.ref b) (!eqL ds es) := by
  have q1 := SeqAt.RcAt.tuples h1 h2 hu (k1.eqs k2 ih)
  have q2 := SeqAt.RcNeAt.tuples h1 h2 hu (k1.eqs k2 ih)
  rw [List.size_toArray, List.size_toArray, k1.length, k2.length, eqL_min] at q1 q2
  exact ⟨q1, q2⟩
theorem eq_at : ∀ (n : Nat) (A : Around), A.units + n < cLine → ∀ (d e : D) (u w : Value), dpD d ≤ n → Vd s.heap u d → Vd s.heap w e → SeqAt.EqAt A s u w (eqD d e) := by
  intro n
  induction n with
  | zero =>
    intro A hu d e u w hn h k
    have hu0 : A.units < cLine := by omega
    cases h with
    | lst h1 h2 => unfold dpD at hn; omega
    | tup h1 h2 => unfold dpD at hn; omega
    | non =>
      cases k with
      | non => exact SeqAt.EqAt.same _
      | bl b => exact SeqAt.EqAt.none_bool b
      | int b t => exact SeqAt.EqAt.none_int b t
      | str b t => exact SeqAt.EqAt.none_str b t
      | lst k1 _ => exact SeqAt.EqAt.none_list k1 hu0
      | tup k1 _ => exact SeqAt.EqAt.none_tuple k1 hu0
    | bl a =>
      cases k with
      | non => exact SeqAt.EqAt.bool_none a
      | bl b => exact SeqAt.EqAt.bool_bool a b
      | int b t => exact SeqAt.EqAt.bool_int a b t
      | str b t => exact SeqAt.EqAt.bool_str a b t
      | lst k1 _ => exact SeqAt.EqAt.bool_list a k1 hu0
      | tup k1 _ => exact SeqAt.EqAt.bool_tuple a k1 hu0
    | int a t' =>
      cases k with
      | non => exact SeqAt.EqAt.int_none a t'
      | bl b => exact SeqAt.EqAt.int_bool a t' b
      | int b t => exact SeqAt.EqAt.int_int a t' b t
      | str b t => exact SeqAt.EqAt.int_str a t' b t
      | lst k1 _ => exact SeqAt.EqAt.int_list a t' k1 hu0
      | tup k1 _ => exact SeqAt.EqAt.int_tuple a t' k1 hu0
    | str a t' =>
      cases k with
      | non => exact SeqAt.EqAt.str_none a t'
      | bl b => exact SeqAt.EqAt.str_bool a t' b
      | int b t => exact SeqAt.EqAt.str_int a t' b t
      | str b t => exact SeqAt.EqAt.str_str a t' b t
      | lst k1 _ => exact SeqAt.EqAt.str_list a t' k1 hu0
      | tup k1 _ => exact SeqAt.EqAt.str_tuple a t' k1 hu0
  | succ n ih =>
    intro A hu d e u w hn h k
    have hu0 : A.units < cLine := by omega
    cases h with
    | non => exact ih A (by omega) _ _ _ _ (Nat.zero_le _) .non k
    | bl a => exact ih A (by omega) _ _ _ _ (Nat.zero_le _) (.bl a) k
    | int a t => exact ih A (by omega) _ _ _ _ (Nat.zero_le _) (.int a t) k
    | str a t => exact ih A (by omega) _ _ _ _ (Nat.zero_le _) (.str a t) k
    | @lst a us ds h1 h2 =>
      cases k with
      | non => exact SeqAt.EqAt.list_none h1 hu0
      | bl b => exact SeqAt.EqAt.list_bool b h1 hu0
      | int b t => exact SeqAt.EqAt.list_int b t h1 hu0
      | str b t => exact SeqAt.EqAt.list_str b t h1 hu0
      | tup k1 _ => exact SeqAt.EqAt.list_tuple h1 k1 hu0
      | @lst b ws es k1 k2 =>
        by_cases hab : a = b
        · subst hab
          have e := Vd.inj (Vd.lst h1 h2) (Vd.lst k1 k2)
          cases e
          rw [Vd.refl (Vd.lst h1 h2)]
          exact SeqAt.EqAt.same _
        · refine SeqAt.EqAt.of_refs hab (rc_lst hu0 h1 k1 h2 k2 fun d hd e u w v1 v2 => ih A.in1 (by show A.units + 1 + n < cLine; omega) d e u w ?_ v1 v2).1
          have := dpL_mem hd
          unfold dpD at hn
          omega
    | @tup a us ds h1 h2 =>
      cases k with
      | non => exact SeqAt.EqAt.tuple_none h1 hu0
      | bl b => exact SeqAt.EqAt.tuple_bool b h1 hu0
      | int b t => exact SeqAt.EqAt.tuple_int b t h1 hu0
      | str b t => exact SeqAt.EqAt.tuple_str b t h1 hu0
      | lst k1 _ => exact SeqAt.EqAt.tuple_list h1 k1 hu0
      | @tup b ws es k1 k2 =>
        by_cases hab : a = b
        · subst hab
          have e := Vd.inj (Vd.tup h1 h2) (Vd.tup k1 k2)
          cases e
          rw [Vd.refl (Vd.tup h1 h2)]
          exact SeqAt.EqAt.same _
        · refine SeqAt.EqAt.of_refs hab (rc_tup hu0 h1 k1 h2 k2 fun d hd e u w v1 v2 => ih A.in1 (by show A.units + 1 + n < cLine; omega) d e u w ?_ v1 v2).1
          have := dpL_mem hd
          unfold dpD at hn
          omega
theorem rc_at {A : Around} (hu : A.units + 64 < cLine) {d e : D} {u w : Value} (hn : dpD d ≤ 60) (h : Vd s.heap u d) (k : Vd s.heap w e) : SeqAt.RcAt A s u w (eqD d e) ∧ SeqAt.RcNeAt A s u w (!eqD d e) := by
  have hu0 : A.units < cLine := by omega
  cases h with
  | non =>
    cases k with
    | non => exact ⟨SeqAt.RcAt.none_none, SeqAt.RcNeAt.none_none⟩
    | bl b => exact ⟨SeqAt.RcAt.none_bool b, SeqAt.RcNeAt.none_bool b⟩
    | int b t => exact ⟨SeqAt.RcAt.none_int b t, SeqAt.RcNeAt.none_int b t⟩
    | str b t => exact ⟨SeqAt.RcAt.none_str b t, SeqAt.RcNeAt.none_str b t⟩
    | lst k1 _ => exact ⟨SeqAt.RcAt.none_list k1 hu0, SeqAt.RcNeAt.none_list k1 hu0⟩
    | tup k1 _ => exact ⟨SeqAt.RcAt.none_tuple k1 hu0, SeqAt.RcNeAt.none_tuple k1 hu0⟩
  | bl a =>
    cases k with
    | non => exact ⟨SeqAt.RcAt.bool_none a, SeqAt.RcNeAt.bool_none a⟩
    | bl b => exact ⟨SeqAt.RcAt.bool_bool a b, SeqAt.RcNeAt.bool_bool a b⟩
    | int b t => exact ⟨SeqAt.RcAt.bool_int a b t, SeqAt.RcNeAt.bool_int a b t⟩
    | str b t => exact ⟨SeqAt.RcAt.bool_str a b t, SeqAt.RcNeAt.bool_str a b t⟩
    | lst k1 _ => exact ⟨SeqAt.RcAt.bool_list a k1 hu0, SeqAt.RcNeAt.bool_list a k1 hu0⟩
    | tup k1 _ => exact ⟨SeqAt.RcAt.bool_tuple a k1 hu0, SeqAt.RcNeAt.bool_tuple a k1 hu0⟩
  | int a t' =>
    cases k with
    | non => exact ⟨SeqAt.RcAt.int_none a t', SeqAt.RcNeAt.int_none a t'⟩
    | bl b => exact ⟨SeqAt.RcAt.int_bool a t' b, SeqAt.RcNeAt.int_bool a t' b⟩
    | int b t => exact ⟨SeqAt.RcAt.int_int a t' b t, SeqAt.RcNeAt.int_int a t' b t⟩
    | str b t => exact ⟨SeqAt.RcAt.int_str a t' b t, SeqAt.RcNeAt.int_str a t' b t⟩
    | lst k1 _ => exact ⟨SeqAt.RcAt.int_list a t' k1 hu0, SeqAt.RcNeAt.int_list a t' k1 hu0⟩
    | tup k1 _ => exact ⟨SeqAt.RcAt.int_tuple a t' k1 hu0, SeqAt.RcNeAt.int_tuple a t' k1 hu0⟩
  | str a t' =>
    cases k with
    | non => exact ⟨SeqAt.RcAt.str_none a t', SeqAt.RcNeAt.str_none a t'⟩
    | bl b => exact ⟨SeqAt.RcAt.str_bool a t' b, SeqAt.RcNeAt.str_bool a t' b⟩
    | int b t => exact ⟨SeqAt.RcAt.str_int a t' b t, SeqAt.RcNeAt.str_int a t' b t⟩
    | str b t => exact ⟨SeqAt.RcAt.str_str a t' b t, SeqAt.RcNeAt.str_str a t' b t⟩
    | lst k1 _ => exact ⟨SeqAt.RcAt.str_list a t' k1 hu0, SeqAt.RcNeAt.str_list a t' k1 hu0⟩
    | tup k1 _ => exact ⟨SeqAt.RcAt.str_tuple a t' k1 hu0, SeqAt.RcNeAt.str_tuple a t' k1 hu0⟩
  | @lst a us ds h1 h2 =>
    cases k with
    | non => exact ⟨SeqAt.RcAt.list_none h1 hu0, SeqAt.RcNeAt.list_none h1 hu0⟩
    | bl b => exact ⟨SeqAt.RcAt.list_bool b h1 hu0, SeqAt.RcNeAt.list_bool b h1 hu0⟩
    | int b t => exact ⟨SeqAt.RcAt.list_int b t h1 hu0, SeqAt.RcNeAt.list_int b t h1 hu0⟩
    | str b t => exact ⟨SeqAt.RcAt.list_str b t h1 hu0, SeqAt.RcNeAt.list_str b t h1 hu0⟩
    | tup k1 _ => exact ⟨SeqAt.RcAt.list_tuple h1 k1 hu0, SeqAt.RcNeAt.list_tuple h1 k1 hu0⟩
    | lst k1 k2 =>
      refine rc_lst hu0 h1 k1 h2 k2 fun d hd e u w v1 v2 => eq_at 60 A.in1 (by show A.units + 1 + 60 < cLine; omega) d e u w ?_ v1 v2
      have := dpL_mem hd
      unfold dpD at hn
      omega
  | @tup a us ds h1 h2 =>
    cases k with
    | non => exact ⟨SeqAt.RcAt.tuple_none h1 hu0, SeqAt.RcNeAt.tuple_none h1 hu0⟩
    | bl b => exact ⟨SeqAt.RcAt.tuple_bool b h1 hu0, SeqAt.RcNeAt.tuple_bool b h1 hu0⟩
    | int b t => exact ⟨SeqAt.RcAt.tuple_int b t h1 hu0, SeqAt.RcNeAt.tuple_int b t h1 hu0⟩
    | str b t => exact ⟨SeqAt.RcAt.tuple_str b t h1 hu0, SeqAt.RcNeAt.tuple_str b t h1 hu0⟩
    | lst k1 _ => exact ⟨SeqAt.RcAt.tuple_list h1 k1 hu0, SeqAt.RcNeAt.tuple_list h1 k1 hu0⟩
    | tup k1 k2 =>
      refine rc_tup hu0 h1 k1 h2 k2 fun d hd e u w v1 v2 => eq_at 60 A.in1 (by show A.units + 1 + 60 < cLine; omega) d e u w ?_ v1 v2
      have := dpL_mem hd
      unfold dpD at hn
      omega
end
theorem okD_b {d : D} (h : okD d = true) : plD d = true ∧ dpD d ≤ 60 := by
  obtain ⟨h1, h2⟩ := Bool.and_eq_true_iff.mp h
  exact ⟨h1, of_decide_eq_true h2⟩
def rEqP (K : PySem.W.Frag) (neg : Bool) : R2 := fun x y H Q => ∃ r G d e, Ex G H ∧ Rep K r G x d ∧ Rep K r G y e ∧ okD d = true ∧ okD e = true ∧ Q (.bl (if neg then !eqD d e else eqD d e)) H
def pyEq (neg : Bool) : D → D → (D → Prop) → Prop := fun x y A => okD x = true ∧ okD y = true ∧ A (.bl (if neg then !eqD x y else eqD x y))
section
variable {X : Cx}
theorem op_eqP (hu : X.A.units + 64 < cLine) : OpR X (compareOp .Eq) (rEqP X.K false) := by
  intro pins s σ H x y v u Q I rx ry h
  obtain ⟨r, G, d, e, ex, hd, he, pd, pe, q⟩ := h
  obtain ⟨p1, n1⟩ := okD_b pd
  exact (rc_at hu n1 (hd.vd I ex p1 rx) (he.vd I ex (okD_b pe).1 ry)).1 _ _ _ _ ⟨.bl _, H, I, rfl, q⟩
theorem op_neP (hu : X.A.units + 64 < cLine) : OpR X (compareOp .NotEq) (rEqP X.K true) := by
  intro pins s σ H x y v u Q I rx ry h
  obtain ⟨r, G, d, e, ex, hd, he, pd, pe, q⟩ := h
  obtain ⟨p1, n1⟩ := okD_b pd
  exact (rc_at hu n1 (hd.vd I ex p1 rx) (he.vd I ex (okD_b pe).1 ry)).2 _ _ _ _ ⟨.bl _, H, I, rfl, q⟩
theorem od_eq {K : PySem.W.Frag} {neg : Bool} : OpD K (rEqP K neg) (pyEq neg) := fun r0 G H x y dx dy A Q s g rx ry h k => ⟨r0, G, dx, dy, s, rx, ry, h.1, h.2.1, k _ h.2.2 _ _ _ (Ext.refl s g) (.bl _)⟩
/-! ### in -/
def inD (x : D) (l : List D) : Bool := l.any fun d => eqD d x
open Classical in
noncomputable def vdB (h : Heap) (x : D) (u : Value) : Bool := decide (∃ d, Vd h u d ∧ eqD d x = true)
open Classical in
theorem vdB_of {h : Heap} {x d : D} {u : Value} (k : Vd h u d) : vdB h x u = eqD d x := by
  unfold vdB
  cases e : eqD d x with
  | true => exact decide_eq_true ⟨d, k, e⟩
  | false => exact decide_eq_false fun ⟨d', k', e'⟩ => by rw [k'.inj k, e] at e'; cases e'
theorem vdB_any {h : Heap} {x : D} : ∀ {us : List Value} {ds : List D}, VdL h us ds → us.any (vdB h x) = inD x ds
  | _, _, .nil => rfl
  | _, _, .cons a b => by
    unfold inD
    rw [List.any_cons, List.any_cons, vdB_of a]
    exact congrArg (eqD _ x || ·) (vdB_any b)
theorem VdL.mem {h : Heap} : ∀ {us : List Value} {ds : List D} {u : Value}, VdL h us ds → u ∈ us → ∃ d ∈ ds, Vd h u d
  | _, _, _, .cons a b, hu => by
    rcases List.mem_cons.mp hu with rfl | hu
    · exact ⟨_, List.mem_cons_self, a⟩
    · obtain ⟨d, h1, h2⟩ := VdL.mem b hu
      exact ⟨d, List.mem_cons_of_mem _ h1, h2⟩
def rInP (K : PySem.W.Frag) (neg : Bool) : R2 := fun x y H Q => ∃ r G d e l, Ex G H ∧ Rep K r G x d ∧ Rep K r G y e ∧ okD d = true ∧ okD e = true ∧ (e = .lst l ∨ e = .tup l) ∧ Q (.bl (if neg then !inD d l else inD d l)) H
theorem in_items {s : Shared} {A : Around} (hu : A.units + 64 < cLine) {d : D} {v : Value} (hv : Vd s.heap v d) {us : List Value} {l : List D} (hl : VdL s.heap us l) (hn : dpL l ≤ 60) : ∀ w, w ∈ us.toArray → SeqAt.EqAt A.in1 s w v (vdB s.heap d w) := fun w hw => by
  obtain ⟨e, he, hw'⟩ := hl.mem (u := w) (by simpa using hw)
  rw [vdB_of hw']
  exact eq_at 60 A.in1 (by show A.units + 1 + 60 < cLine; omega) e d w v (Nat.le_trans (dpL_mem he) hn) hw' hv
theorem op_inP (hu : X.A.units + 64 < cLine) : OpR X (compareOp .In) (rInP X.K false) := by
  intro pins s σ H x y v u Q I rx ry h
  obtain ⟨r, G, d, e, l, ex, hd, he, pd, pe, hl, q⟩ := h
  have vd := hd.vd I ex (okD_b pd).1 rx
  have ve := he.vd I ex (okD_b pe).1 ry
  have hn := (okD_b pe).2
  rcases hl with rfl | rfl
  · cases ve with
    | lst h1 h2 =>
      refine SeqAt.in_listAt (vdB s.heap d) h1 (in_items hu vd h2 (by unfold dpD at hn; omega)) ⟨.bl _, H, I, rfl, ?_⟩
      rw [List.any_toArray, vdB_any h2]
      exact q
  · cases ve with
    | tup h1 h2 =>
      refine SeqAt.in_tupleAt (vdB s.heap d) h1 (in_items hu vd h2 (by unfold dpD at hn; omega)) ⟨.bl _, H, I, rfl, ?_⟩
      rw [List.any_toArray, vdB_any h2]
      exact q
theorem op_notInP (hu : X.A.units + 64 < cLine) : OpR X (compareOp .NotIn) (rInP X.K true) := by
  intro pins s σ H x y v u Q I rx ry h
  obtain ⟨r, G, d, e, l, ex, hd, he, pd, pe, hl, q⟩ := h
  have vd := hd.vd I ex (okD_b pd).1 rx
  have ve := he.vd I ex (okD_b pe).1 ry
  have hn := (okD_b pe).2
  rcases hl with rfl | rfl
  · cases ve with
    | lst h1 h2 =>
      refine SeqAt.notIn_listAt (vdB s.heap d) h1 (in_items hu vd h2 (by unfold dpD at hn; omega)) ⟨.bl _, H, I, rfl, ?_⟩
      rw [List.any_toArray, vdB_any h2]
      exact q
  · cases ve with
    | tup h1 h2 =>
      refine SeqAt.notIn_tupleAt (vdB s.heap d) h1 (in_items hu vd h2 (by unfold dpD at hn; omega)) ⟨.bl _, H, I, rfl, ?_⟩
      rw [List.any_toArray, vdB_any h2]
      exact q
/-- x in a list or a tuple; a sign in a text -/
def pyIn (neg : Bool) : D → D → (D → Prop) → Prop
  | x, .lst l, A => okD x = true ∧ okD (.lst l) = true ∧ A (.bl (if neg then !inD x l else inD x l))
  | x, .tup l, A => okD x = true ∧ okD (.tup l) = true ∧ A (.bl (if neg then !inD x l else inD x l))
  | .str y, .str z, A => ∃ c, y = ⟨#[c]⟩ ∧ A (.bl (if neg then !decide (c ∈ cs z) else decide (c ∈ cs z)))
  | _, _, _ => False
def rInS (neg : Bool) : R2 := fun x y H Q => ∃ (c : Nat) (z : Str), x = .str ⟨#[c]⟩ ∧ y = .str z ∧ Q (.bl (if neg then !decide (c ∈ cs z) else decide (c ∈ cs z))) H
theorem op_inA (hu : X.A.units + 64 < cLine) : OpR X (compareOp .In) (fun x y H Q => rInP X.K false x y H Q ∨ rInS false x y H Q) := OpR.or (op_inP hu) op_in_sign
theorem op_notInA (hu : X.A.units + 64 < cLine) : OpR X (compareOp .NotIn) (fun x y H Q => rInP X.K true x y H Q ∨ rInS true x y H Q) := OpR.or (op_notInP hu) op_notIn_sign
theorem od_in {K : PySem.W.Frag} {neg : Bool} : OpD K (fun x y H Q => rInP K neg x y H Q ∨ rInS neg x y H Q) (pyIn neg) := fun r0 G H x y dx dy A Q s g rx ry h k => by
  unfold pyIn at h
  split at h
  · exact .inl ⟨r0, G, _, _, _, s, rx, ry, h.1, h.2.1, .inl rfl, k _ h.2.2 _ _ _ (Ext.refl s g) (.bl _)⟩
  · exact .inl ⟨r0, G, _, _, _, s, rx, ry, h.1, h.2.1, .inr rfl, k _ h.2.2 _ _ _ (Ext.refl s g) (.bl _)⟩
  · obtain ⟨c, rfl, h⟩ := h
    cases rx
    cases ry
    exact .inr ⟨c, _, rfl, rfl, k _ h _ _ _ (Ext.refl s g) (.bl _)⟩
  · exact h.elim
end
/-! ### plain facts -/
theorem eqD_str (a b : Str) : eqD (.str a) (.str b) = decide (a = b) := by
  unfold eqD
  by_cases h : a = b
  · subst h; simp
  · rw [decide_eq_false h, beq_false_of_ne h]
theorem eqL_strs : ∀ (xs ys : List Str), eqL (xs.map D.str) (ys.map D.str) = decide (xs = ys)
  | [], [] => rfl
  | [], _ :: _ => rfl
  | _ :: _, [] => rfl
  | x :: xs, y :: ys => by
    show (eqD (.str x) (.str y) && eqL (xs.map D.str) (ys.map D.str)) = _
    rw [eqL_strs xs ys, eqD_str]
    by_cases h1 : x = y <;> by_cases h2 : xs = ys <;> simp [h1, h2]
theorem inD_strs (z : Str) : ∀ (xs : List Str), inD (.str z) (xs.map D.str) = decide (z ∈ xs)
  | [] => rfl
  | x :: xs => by
    have ih := inD_strs z xs
    unfold inD at ih ⊢
    rw [List.map_cons, List.any_cons, ih, eqD_str]
    by_cases h : x = z
    · subst h; simp
    · rw [decide_eq_false h, Bool.false_or]
      refine decide_eq_decide.mpr ⟨fun q => List.mem_cons_of_mem _ q, fun q => ?_⟩
      rcases List.mem_cons.mp q with q | q
      · exact absurd q.symm h
      · exact q
theorem ok_strs : ∀ (xs : List Str), plL (xs.map D.str) = true ∧ dpL (xs.map D.str) = 0
  | [] => ⟨rfl, rfl⟩
  | x :: xs => by
    obtain ⟨h1, h2⟩ := ok_strs xs
    refine ⟨?_, ?_⟩
    · show (plD (.str x) && plL (xs.map D.str)) = true
      rw [h1]; rfl
    · show max (dpD (.str x)) (dpL (xs.map D.str)) = 0
      rw [h2]; rfl
theorem okD_lstS (xs : List Str) : okD (.lst (xs.map D.str)) = true := by
  obtain ⟨h1, h2⟩ := ok_strs xs
  show (plL (xs.map D.str) && decide (dpL (xs.map D.str) + 1 ≤ 60)) = true
  rw [h1, h2]; rfl
theorem okD_tupS (xs : List Str) : okD (.tup (xs.map D.str)) = true := by
  obtain ⟨h1, h2⟩ := ok_strs xs
  show (plL (xs.map D.str) && decide (dpL (xs.map D.str) + 1 ≤ 60)) = true
  rw [h1, h2]; rfl
theorem okD_str (z : Str) : okD (.str z) = true := rfl
end Ab

set_option Elab.async false
set_option linter.all false
set_option maxRecDepth 100000
set_option maxHeartbeats 4000000
/-! DxF: operators, built-in functions, subscripts, slices, texts' methods, lists of one's own. -/
namespace Ab
open PySem PySem.Spec PyProof.Rows L2
theorem len_le {z : Str} {n : Nat} (h : (cs z).length ≤ n) : z.length ≤ n := by rw [cs_len]; exact h
theorem str_line {z : Str} (h : (cs z).length ≤ 1000000) : z.length ≤ sizeLine := big_le (len_le h)
theorem new_lst {K : PySem.W.Frag} {r : Option Addr} {G H : Hp} {p : Addr} {vs : List V} {l : List D} (s : Ex G H) (g : Rg r G H) (hp : H p = none) (h : RepL K r G vs l) : Ext r G H (upd G p (.lst vs)) (upd H p (.lst vs)) ∧ Rep K r (upd G p (.lst vs)) (.ref p) (.lst l) :=
  have E := Ext.new (o := .lst vs) s g hp
  ⟨E, .lst upd_same (h.ex E.gg)⟩
theorem new_tup {K : PySem.W.Frag} {r : Option Addr} {G H : Hp} {p : Addr} {vs : List V} {l : List D} (s : Ex G H) (g : Rg r G H) (hp : H p = none) (h : RepL K r G vs l) : Ext r G H (upd G p (.tup vs)) (upd H p (.tup vs)) ∧ Rep K r (upd G p (.tup vs)) (.ref p) (.tup l) :=
  have E := Ext.new (o := .tup vs) s g hp
  ⟨E, .tup (SqT.of upd_same) (h.ex E.gg)⟩
/-! ### + - * // % ** -/
def pyAdd : D → D → (D → Prop) → Prop
  | .int a, .int b, A => A (.int (a + b))
  | .str a, .str b, A => (cs a).length + (cs b).length ≤ 1000000 ∧ A (.str (a ++ b))
  | .lst a, .lst b, A => a.length + b.length ≤ 1000000 ∧ A (.lst (a ++ b))
  | .tup a, .tup b, A => a.length + b.length ≤ 1000000 ∧ A (.tup (a ++ b))
  | _, _, _ => False
def rAdd (K : PySem.W.Frag) : R2 := fun x y H Q => rI0 (fun i j => .int (i + j)) x y H Q ∨ (∃ i j, x = .str i ∧ y = .str j ∧ i.length + j.length ≤ sizeLine ∧ Q (.str (i ++ j)) H) ∨ rCat x y H Q ∨ rCatA K x y H Q
section
variable {X : Cx} {K : PySem.W.Frag}
theorem op_addA : OpR X (binaryOp .Add) (rAdd X.K) := OpR.or op_add (OpR.or op_add_str (OpR.or op_cat op_catA))
theorem od_add : OpD K (rAdd K) pyAdd := fun r0 G H x y dx dy A Q s g rx ry h k => by
  unfold pyAdd at h
  split at h
  · cases rx; cases ry
    exact .inl ⟨_, _, rfl, rfl, k _ h _ _ _ (Ext.refl s g) (.int _)⟩
  · cases rx; cases ry
    exact .inr (.inl ⟨_, _, rfl, rfl, by rw [cs_len, cs_len]; exact big_le h.1, k _ h.2 _ _ _ (Ext.refl s g) (.str _)⟩)
  · cases rx with
    | lst h1 h2 => cases ry with
      | lst h3 h4 =>
        refine .inr (.inr (.inl ⟨_, _, _, _, rfl, rfl, s _ _ h1, s _ _ h3, by rw [h2.length, h4.length]; exact big_le h.1, fun p hp => ?_⟩))
        have E := new_lst s g hp (h2.append h4)
        exact k _ h.2 _ _ _ E.1 E.2
  · cases rx with
    | @tup a vs l h1 h2 => cases ry with
      | @tup b us m h3 h4 =>
        refine .inr (.inr (.inr ⟨_, _, _, _, rfl, rfl, ex_seqT s h1, ex_seqT s h3, by rw [h2.length, h4.length]; exact big_le h.1, fun e => ?_, fun _ e => ?_, fun _ _ p hp => ?_⟩))
        · subst e
          cases h2
          exact k _ h.2 _ _ _ (Ext.refl s g) (.tup h3 h4)
        · subst e
          cases h4
          refine k _ h.2 _ _ _ (Ext.refl s g) ?_
          rw [List.append_nil]
          exact .tup h1 h2
        · have E := Ext.new (o := .tup (vs ++ us)) s g hp
          exact k _ h.2 _ _ _ E (.tup (SqT.of upd_same) ((h2.append h4).ex E.gg))
  · exact h.elim
def pySub : D → D → (D → Prop) → Prop
  | .int a, .int b, A => A (.int (a - b))
  | _, _, _ => False
theorem od_sub : OpD K (rI0 fun i j => .int (i - j)) pySub := fun r0 G H x y dx dy A Q s g rx ry h k => by
  unfold pySub at h
  split at h
  · cases rx; cases ry
    exact ⟨_, _, rfl, rfl, k _ h _ _ _ (Ext.refl s g) (.int _)⟩
  · exact h.elim
def pyMod : D → D → (D → Prop) → Prop
  | .int a, .int b, A => 0 < b ∧ A (.int (a % b))
  | _, _, _ => False
theorem od_mod : OpD K (rI (fun _ j => 0 < j) fun i j => .int (i % j)) pyMod := fun r0 G H x y dx dy A Q s g rx ry h k => by
  unfold pyMod at h
  split at h
  · cases rx; cases ry
    exact ⟨_, _, rfl, rfl, h.1, k _ h.2 _ _ _ (Ext.refl s g) (.int _)⟩
  · exact h.elim
def pyFdv : D → D → (D → Prop) → Prop
  | .int a, .int b, A => CDiv a b ∧ A (.int (a / b))
  | _, _, _ => False
theorem od_fdv : OpD K (rI CDiv fun i j => .int (i / j)) pyFdv := fun r0 G H x y dx dy A Q s g rx ry h k => by
  unfold pyFdv at h
  split at h
  · cases rx; cases ry
    exact ⟨_, _, rfl, rfl, h.1, k _ h.2 _ _ _ (Ext.refl s g) (.int _)⟩
  · exact h.elim
def pyPow : D → D → (D → Prop) → Prop
  | .int a, .int b, A => CPow a b ∧ A (.int (a ^ b.toNat))
  | _, _, _ => False
theorem od_pow : OpD K (rI CPow fun i j => .int (i ^ j.toNat)) pyPow := fun r0 G H x y dx dy A Q s g rx ry h k => by
  unfold pyPow at h
  split at h
  · cases rx; cases ry
    exact ⟨_, _, rfl, rfl, h.1, k _ h.2 _ _ _ (Ext.refl s g) (.int _)⟩
  · exact h.elim
/-- a * b of ints, of a text and an int -/
def pyMul : D → D → (D → Prop) → Prop
  | .int a, .int b, A => CMul a b ∧ A (.int (a * b))
  | .str a, .int b, A => 0 ≤ b ∧ b ≤ 100000 ∧ (cs a).length * b.toNat ≤ 1000000 ∧ A (.str (repS a b.toNat))
  | _, _, _ => False
def rMul : R2 := fun x y H Q => rI CMul (fun i j => .int (i * j)) x y H Q ∨ rRepS x y H Q
theorem op_mulA : OpR X (binaryOp .Mult) rMul := OpR.or op_mul op_repS
theorem od_mul : OpD K rMul pyMul := fun r0 G H x y dx dy A Q s g rx ry h k => by
  unfold pyMul at h
  split at h
  · cases rx; cases ry
    exact .inl ⟨_, _, rfl, rfl, h.1, k _ h.2 _ _ _ (Ext.refl s g) (.int _)⟩
  · cases rx; cases ry
    exact .inr ⟨_, _, rfl, rfl, h.1, h.2.1, h.2.2.1, k _ h.2.2.2 _ _ _ (Ext.refl s g) (.str _)⟩
  · exact h.elim
/-! ### < <= > >= -/
def pyLt : D → D → (D → Prop) → Prop
  | .int a, .int b, A => A (.bl (decide (a < b)))
  | .str a, .str b, A => A (.bl (decide (cs a < cs b)))
  | _, _, _ => False
def pyLe : D → D → (D → Prop) → Prop
  | .int a, .int b, A => A (.bl (decide (a ≤ b)))
  | .str a, .str b, A => A (.bl (!decide (cs b < cs a)))
  | _, _, _ => False
def pyGt : D → D → (D → Prop) → Prop
  | .int a, .int b, A => A (.bl (decide (b < a)))
  | .str a, .str b, A => A (.bl (decide (cs b < cs a)))
  | _, _, _ => False
def pyGe : D → D → (D → Prop) → Prop
  | .int a, .int b, A => A (.bl (decide (b ≤ a)))
  | .str a, .str b, A => A (.bl (!decide (cs a < cs b)))
  | _, _, _ => False
def rCmp (f : Int → Int → Bool) (g : List Nat → List Nat → Bool) : R2 := fun x y H Q => rI0 (fun i j => .bl (f i j)) x y H Q ∨ ∃ i j, x = .str i ∧ y = .str j ∧ Q (.bl (g i.cps.toList j.cps.toList)) H
theorem op_ltA : OpR X (compareOp .Lt) (rCmp (fun i j => decide (i < j)) fun a b => decide (a < b)) := OpR.or op_lt op_lt_str
theorem op_leA : OpR X (compareOp .LtE) (rCmp (fun i j => decide (i ≤ j)) fun a b => !decide (b < a)) := OpR.or op_le op_le_str
theorem op_gtA : OpR X (compareOp .Gt) (rCmp (fun i j => decide (j < i)) fun a b => decide (b < a)) := OpR.or op_gt op_gt_str
theorem op_geA : OpR X (compareOp .GtE) (rCmp (fun i j => decide (j ≤ i)) fun a b => !decide (a < b)) := OpR.or op_ge op_ge_str
theorem od_lt : OpD K (rCmp (fun i j => decide (i < j)) fun a b => decide (a < b)) pyLt := fun r0 G H x y dx dy A Q s g rx ry h k => by
  unfold pyLt at h
  split at h
  · cases rx; cases ry; exact .inl ⟨_, _, rfl, rfl, k _ h _ _ _ (Ext.refl s g) (.bl _)⟩
  · cases rx; cases ry; exact .inr ⟨_, _, rfl, rfl, k _ h _ _ _ (Ext.refl s g) (.bl _)⟩
  · exact h.elim
theorem od_le : OpD K (rCmp (fun i j => decide (i ≤ j)) fun a b => !decide (b < a)) pyLe := fun r0 G H x y dx dy A Q s g rx ry h k => by
  unfold pyLe at h
  split at h
  · cases rx; cases ry; exact .inl ⟨_, _, rfl, rfl, k _ h _ _ _ (Ext.refl s g) (.bl _)⟩
  · cases rx; cases ry; exact .inr ⟨_, _, rfl, rfl, k _ h _ _ _ (Ext.refl s g) (.bl _)⟩
  · exact h.elim
theorem od_gt : OpD K (rCmp (fun i j => decide (j < i)) fun a b => decide (b < a)) pyGt := fun r0 G H x y dx dy A Q s g rx ry h k => by
  unfold pyGt at h
  split at h
  · cases rx; cases ry; exact .inl ⟨_, _, rfl, rfl, k _ h _ _ _ (Ext.refl s g) (.bl _)⟩
  · cases rx; cases ry; exact .inr ⟨_, _, rfl, rfl, k _ h _ _ _ (Ext.refl s g) (.bl _)⟩
  · exact h.elim
theorem od_ge : OpD K (rCmp (fun i j => decide (j ≤ i)) fun a b => !decide (a < b)) pyGe := fun r0 G H x y dx dy A Q s g rx ry h k => by
  unfold pyGe at h
  split at h
  · cases rx; cases ry; exact .inl ⟨_, _, rfl, rfl, k _ h _ _ _ (Ext.refl s g) (.bl _)⟩
  · cases rx; cases ry; exact .inr ⟨_, _, rfl, rfl, k _ h _ _ _ (Ext.refl s g) (.bl _)⟩
  · exact h.elim
/-! ### is None -/
def isNon : D → Bool
  | .non => true
  | _ => false
def pyIsN (neg : Bool) : D → D → (D → Prop) → Prop := fun x y A => isNon y = true ∧ A (.bl (if neg then !isNon x else isNon x))
theorem rep_non {r : Option Addr} {G : Hp} {v : V} {d : D} (h : Rep K r G v d) : decide (v = .non) = isNon d := by cases h <;> rfl
theorem rep_nonI {r : Option Addr} {G : Hp} {v : V} {d : D} (h : Rep K r G v d) (n : isNon d = true) : v = .non := by cases h <;> first | rfl | cases n
theorem od_isN : OpD K (fun x y H Q => y = .non ∧ Q (.bl (decide (x = .non))) H) (pyIsN false) := fun r0 G H x y dx dy A Q s g rx ry h k => by
  refine ⟨rep_nonI ry h.1, ?_⟩
  rw [rep_non rx]
  exact k _ h.2 _ _ _ (Ext.refl s g) (.bl _)
theorem od_notN : OpD K (fun x y H Q => y = .non ∧ Q (.bl (!decide (x = .non))) H) (pyIsN true) := fun r0 G H x y dx dy A Q s g rx ry h k => by
  refine ⟨rep_nonI ry h.1, ?_⟩
  rw [rep_non rx]
  exact k _ h.2 _ _ _ (Ext.refl s g) (.bl _)
def pyNeg : D → (D → Prop) → Prop
  | .int i, A => A (.int (-i))
  | _, _ => False
theorem ud_neg : UnD K (rU fun i => .int (-i)) pyNeg := fun r0 G H x dx A Q s g rx h k => by
  unfold pyNeg at h
  split at h
  · cases rx; exact ⟨_, rfl, k _ h _ _ _ (Ext.refl s g) (.int _)⟩
  · exact h.elim
end
/-! ### subscripts -/
def pyIx : D → D → (D → Prop) → Prop
  | .lst l, .int i, A => ∃ d, atI l i = some d ∧ A d
  | .tup l, .int i, A => ∃ d, atI l i = some d ∧ A d
  | .str z, .int i, A => (cs z).length ≤ 1000000 ∧ ∃ c, atI (cs z) i = some c ∧ A (.str ⟨#[c]⟩)
  | _, _, _ => False
def rIxA (K : PySem.W.Frag) : R2 := fun x y H Q => rIxL K x y H Q ∨ rIxT K x y H Q ∨ rIxS x y H Q
theorem ix_any {X : Cx} : IxR X (rIxA X.K) := IxR.or ix_list (IxR.or ix_tup ix_str)
theorem RepL.atI {K : PySem.W.Frag} {r : Option Addr} {G : Hp} {vs : List V} {l : List D} {i : Int} {d : D} (h : RepL K r G vs l) (e : L2.atI l i = some d) : ∃ v, L2.atI vs i = some v ∧ Rep K r G v d := by
  unfold L2.atI at e ⊢
  rw [h.length]
  cases q : ixN l.length i with
  | none => rw [q] at e; cases e
  | some j => rw [q] at e; exact h.get (i := j) e
theorem od_ix {K : PySem.W.Frag} : OpD K (rIxA K) pyIx := fun r0 G H x y dx dy A Q s g rx ry h k => by
  unfold pyIx at h
  split at h
  · obtain ⟨d, hd, h⟩ := h
    cases ry
    cases rx with
    | lst h1 h2 =>
      obtain ⟨v, hv, rv⟩ := h2.atI hd
      exact .inl ⟨_, _, _, v, rfl, rfl, SqL.of (s _ _ h1), hv, k _ h _ _ _ (Ext.refl s g) rv⟩
  · obtain ⟨d, hd, h⟩ := h
    cases ry
    cases rx with
    | tup h1 h2 =>
      obtain ⟨v, hv, rv⟩ := h2.atI hd
      exact .inr (.inl ⟨_, _, _, v, rfl, rfl, ex_seqT s h1, hv, k _ h _ _ _ (Ext.refl s g) rv⟩)
  · obtain ⟨hz, c, hc, h⟩ := h
    cases rx; cases ry
    exact .inr (.inr ⟨_, _, c, rfl, rfl, str_line hz, hc, k _ h _ _ _ (Ext.refl s g) (.str _)⟩)
  · exact h.elim
/-! ### slices -/
theorem SlR.or {X : Cx} {r r' : V → Option Int → Option Int → Hp → VK → Prop} (h : SlR X r) (h' : SlR X r') : SlR X (fun x lo hi H Q => r x lo hi H Q ∨ r' x lo hi H Q) := by
  intro pins s σ H x v vl vu lo hi sl Q I rx hs pl pu q
  rcases q with q | q
  · exact h pins s σ H x v vl vu lo hi sl Q I rx hs pl pu q
  · exact h' pins s σ H x v vl vu lo hi sl Q I rx hs pl pu q
def rSlAny (K : PySem.W.Frag) : V → Option Int → Option Int → Hp → VK → Prop := fun x lo hi H Q => rSlS x lo hi H Q ∨ rSlA K x lo hi H Q ∨ rSlL K x lo hi H Q
theorem sl_any {X : Cx} : SlR X (rSlAny X.K) := SlR.or sl_str (SlR.or sl_tupA sl_list)
def cutD (l : List D) (lo hi : Option Int) : List D := (l.drop (HT.sIx l.length 0 lo)).take (HT.sIx l.length l.length hi - HT.sIx l.length 0 lo)
def pySl : D → Option Int → Option Int → (D → Prop) → Prop
  | .str z, lo, hi, A => (cs z).length ≤ 1000000 ∧ A (.str (cutS z lo hi))
  | .tup l, lo, hi, A => A (.tup (cutD l lo hi))
  | .lst l, lo, hi, A => A (.lst (cutD l lo hi))
  | _, _, _, _ => False
theorem RepL.cut {K : PySem.W.Frag} {r : Option Addr} {G : Hp} {vs : List V} {l : List D} (h : RepL K r G vs l) (lo hi : Option Int) : RepL K r G (cutV vs lo hi) (cutD l lo hi) := by
  unfold cutV cutD
  rw [h.length]
  exact (h.drop _).take _
theorem cutD_all {l : List D} {lo hi : Option Int} (h : HT.sIx l.length 0 lo = 0 ∧ HT.sIx l.length l.length hi = l.length) : cutD l lo hi = l := by
  unfold cutD
  rw [h.1, h.2, List.drop_zero, Nat.sub_zero, List.take_length]
theorem sd_any {K : PySem.W.Frag} {r0 : Option Addr} {G H : Hp} {x : V} {dx : D} {lo hi : Option Int} {A : D → Prop} {Q : VK} (s : Ex G H) (g : Rg r0 G H) (rx : Rep K r0 G x dx) (h : pySl dx lo hi A)
    (k : ∀ z, A z → ∀ v G' H', Ext r0 G H G' H' → Rep K r0 G' v z → Q v H') : rSlAny K x lo hi H Q := by
  unfold pySl at h
  split at h
  · cases rx
    exact .inl ⟨_, rfl, str_line h.1, k _ h.2 _ _ _ (Ext.refl s g) (.str _)⟩
  · cases rx with
    | tup h1 h2 =>
      refine .inr (.inl ⟨_, _, rfl, ex_seqT s h1, fun e => ?_, fun _ p hp => ?_⟩)
      · rw [h2.length] at e
        rw [cutD_all e] at h
        exact k _ h _ _ _ (Ext.refl s g) (.tup h1 h2)
      · have E := new_tup s g hp (h2.cut lo hi)
        exact k _ h _ _ _ E.1 E.2
  · cases rx with
    | lst h1 h2 =>
      refine .inr (.inr ⟨_, _, rfl, SqL.of (s _ _ h1), fun p hp => ?_⟩)
      have E := new_lst s g hp (h2.cut lo hi)
      exact k _ h _ _ _ E.1 E.2
  · exact h.elim
section
variable {X : Cx} {xk : Xk} {W : WX} {e : Expr}
/-- a bound of a slice that is there or not -/
def dNoP : Rho → (Rho → Option Int → Prop) → DB → Prop := fun ρ A _ => A ρ none
def dP (w : DE) : Rho → (Rho → Option Int → Prop) → DB → Prop := fun ρ A B => w ρ (fun ρ1 x => ∃ i, x = .int i ∧ A ρ1 (some i)) B
def dSl (w : DE) (wl wh : Rho → (Rho → Option Int → Prop) → DB → Prop) : DE := fun ρ A B => w ρ (fun ρ1 x => wl ρ1 (fun ρ2 lo => wh ρ2 (fun ρ3 hi => pySl x lo hi (A ρ3)) B) B) B
def rdP (K : PySem.W.Frag) (xk : Xk) (W : WX) (w : Rho → (Rho → Option Int → Prop) → DB → Prop) : TO := fun σ H Q => ∃ c ρ G A B, SR K xk c ρ σ G H ∧ w ρ A B ∧ (∀ ρ' i, A ρ' i → ∀ G' H', SR K xk c ρ' σ G' H' → Ex G G' → Q i H') ∧ KXl K xk c G σ W B
theorem PO.to {o : Option Expr} {t t' : TO} (h : PO X o t) (i : ∀ σ H Q, t' σ H Q → t σ H Q) : PO X o t' := ⟨fun pins s σ H Q I q => h.run pins s σ H Q I (i _ _ _ q)⟩
theorem pod_none : PO X none (rdP X.K xk W dNoP) := PO.to po_none fun σ H Q q => by
  obtain ⟨c, ρ, G, A, B, s, q, kv, kx⟩ := q
  exact kv _ _ q _ _ s (Same.refl _)
theorem pod_some {w : DE} (h : PO X (some e) (tPart (rdE X.K xk W w))) : PO X (some e) (rdP X.K xk W (dP w)) := PO.to h fun σ H Q q => by
  obtain ⟨c, ρ, G, A, B, s, q, kv, kx⟩ := q
  refine ⟨c, ρ, G, _, B, s, q, fun ρ1 x q1 v1 G1 H1 s1 e1 r1 => ?_, kx⟩
  obtain ⟨i, rfl, q1⟩ := q1
  cases r1
  exact ⟨i, rfl, kv _ _ q1 _ _ s1 e1⟩
theorem pd_sl {w : DE} {wl wh : Rho → (Rho → Option Int → Prop) → DB → Prop} (h : PE X e (tSl (rSlAny X.K) (rdE X.K xk W w) (rdP X.K xk W wl) (rdP X.K xk W wh))) : PD X xk W e (dSl w wl wh) := PE.to h fun σ H Q q => by
  obtain ⟨c, ρ, G, A, B, s, q, kv, kx⟩ := q
  refine ⟨c, ρ, G, _, B, s, q, fun ρ1 x q1 v1 G1 H1 s1 e1 r1 => ?_, kx⟩
  refine ⟨c, ρ1, G1, _, B, s1, q1, fun ρ2 lo q2 G2 H2 s2 e2 => ?_, kx.ex e1⟩
  refine ⟨c, ρ2, G2, _, B, s2, q2, fun ρ3 hi q3 G3 H3 s3 e3 => ?_, kx.ex (e1.trans e2)⟩
  exact sd_any s3.sub s3.Rg (r1.ex (e2.trans e3)) q3 fun z hz v G4 H4 e4 r4 => kv _ _ hz _ _ _ (s3.ext e4) (((e1.trans e2).trans e3).trans e4.gg) r4
/-- xs[::-1] -/
def pyRev : D → (D → Prop) → Prop
  | .lst l, A => A (.lst l.reverse)
  | .tup l, A => A (.tup l.reverse)
  | _, _ => False
theorem pd_revL {w : DE} (h : PE X e (tRevL X.K (rdE X.K xk W w))) : PD X xk W e (dUn (fun x A => ∃ l, x = .lst l ∧ A (.lst l.reverse)) w) := PE.to h fun σ H Q q => by
  obtain ⟨c, ρ, G, A, B, s, q, kv, kx⟩ := q
  refine ⟨c, ρ, G, _, B, s, q, fun ρ1 x q1 v1 G1 H1 s1 e1 r1 => ?_, kx⟩
  obtain ⟨l, rfl, q1⟩ := q1
  cases r1 with
  | lst h1 h2 =>
    refine ⟨_, _, rfl, SqL.of (s1.sub _ _ h1), fun p hp => ?_⟩
    have E := new_lst s1.sub s1.Rg hp h2.reverse
    exact kv _ _ q1 _ _ _ (s1.ext E.1) (e1.trans E.1.gg) E.2
theorem pd_revT {w : DE} (h : PE X e (tRevT X.K (rdE X.K xk W w))) : PD X xk W e (dUn (fun x A => ∃ l, x = .tup l ∧ A (.tup l.reverse)) w) := PE.to h fun σ H Q q => by
  obtain ⟨c, ρ, G, A, B, s, q, kv, kx⟩ := q
  refine ⟨c, ρ, G, _, B, s, q, fun ρ1 x q1 v1 G1 H1 s1 e1 r1 => ?_, kx⟩
  obtain ⟨l, rfl, q1⟩ := q1
  cases r1 with
  | tup h1 h2 =>
    refine ⟨_, _, rfl, ex_seqT s1.sub h1, fun p hp => ?_⟩
    have E := new_tup s1.sub s1.Rg hp h2.reverse
    exact kv _ _ q1 _ _ _ (s1.ext E.1) (e1.trans E.1.gg) E.2
/-! ### texts' methods -/
/-- o.m(e) of a text -/
def M1D (K : PySem.W.Frag) (r : V → List V → Hp → VK → Prop) (f : D → D → (D → Prop) → Prop) : Prop := ∀ r0 G H x y dx dy (A : D → Prop) (Q : VK), Ex G H → Rg r0 G H → Rep K r0 G x dx → Rep K r0 G y dy → f dx dy A →
  (∀ z, A z → ∀ v G' H', Ext r0 G H G' H' → Rep K r0 G' v z → Q v H') → r x [y] H Q
def dM1 (f : D → D → (D → Prop) → Prop) (w1 w2 : DE) : DE := fun ρ A B => w1 ρ (fun ρ1 x => (∃ z, x = .str z) ∧ w2 ρ1 (fun ρ2 y => f x y (A ρ2)) B) B
theorem pd_m1 {r : V → List V → Hp → VK → Prop} {f : D → D → (D → Prop) → Prop} {w1 w2 : DE} (hd : M1D X.K r f) (h : PE X e (tM1 r (rdE X.K xk W w1) (rdE X.K xk W w2))) : PD X xk W e (dM1 f w1 w2) := PE.to h fun σ H Q q => by
  obtain ⟨c, ρ, G, A, B, s, q, kv, kx⟩ := q
  refine ⟨c, ρ, G, _, B, s, q, fun ρ1 x q1 v1 G1 H1 s1 e1 r1 => ?_, kx⟩
  obtain ⟨⟨z, rfl⟩, q1⟩ := q1
  cases r1
  refine ⟨⟨z, rfl⟩, c, ρ1, G1, _, B, s1, q1, fun ρ2 y q2 v2 G2 H2 s2 e2 r2 => ?_, kx.ex e1⟩
  exact hd c.r G2 H2 _ _ _ _ _ _ s2.sub s2.Rg (.str z) r2 q2 fun z hz v G3 H3 e3 r3 => kv _ _ hz _ _ _ (s2.ext e3) ((e1.trans e2).trans e3.gg) r3
def M0D (K : PySem.W.Frag) (r : V → List V → Hp → VK → Prop) (f : D → (D → Prop) → Prop) : Prop := ∀ r0 G H x dx (A : D → Prop) (Q : VK), Ex G H → Rg r0 G H → Rep K r0 G x dx → f dx A →
  (∀ z, A z → ∀ v G' H', Ext r0 G H G' H' → Rep K r0 G' v z → Q v H') → r x [] H Q
def dM0 (f : D → (D → Prop) → Prop) (w1 : DE) : DE := fun ρ A B => w1 ρ (fun ρ1 x => (∃ z, x = .str z) ∧ f x (A ρ1)) B
theorem pd_m0 {r : V → List V → Hp → VK → Prop} {f : D → (D → Prop) → Prop} {w1 : DE} (hd : M0D X.K r f) (h : PE X e (tM0 r (rdE X.K xk W w1))) : PD X xk W e (dM0 f w1) := PE.to h fun σ H Q q => by
  obtain ⟨c, ρ, G, A, B, s, q, kv, kx⟩ := q
  refine ⟨c, ρ, G, _, B, s, q, fun ρ1 x q1 v1 G1 H1 s1 e1 r1 => ?_, kx⟩
  obtain ⟨⟨z, rfl⟩, q1⟩ := q1
  cases r1
  exact ⟨⟨z, rfl⟩, hd c.r G1 H1 _ _ _ _ s1.sub s1.Rg (.str z) q1 fun z hz v G3 H3 e3 r3 => kv _ _ hz _ _ _ (s1.ext e3) (e1.trans e3.gg) r3⟩
def sumLen (ys : List Str) : Nat := (ys.map (·.length)).sum
def pyJoin : D → D → (D → Prop) → Prop := fun x y A => ∃ a, ∃ ys : List Str, x = .str a ∧ (y = .lst (ys.map D.str) ∨ y = .tup (ys.map D.str)) ∧ (ys.map (·.length)).sum + ys.length * a.length ≤ 16777216 ∧ A (.str (Txt.join a ys))
theorem md_join {K : PySem.W.Frag} : M1D K (fun x xs H Q => ∃ a p, ∃ ys : List Str, x = .str a ∧ xs = [.ref p] ∧ (SqL K H p (ys.map V.str) ∨ SqT K H p (ys.map V.str)) ∧
      (ys.map (·.length)).sum + ys.length * a.length ≤ 16777216 ∧ Q (.str (Txt.join a ys)) H) pyJoin := fun r0 G H x y dx dy A Q s g rx ry h k => by
  obtain ⟨a, ys, rfl, hy, h1, h⟩ := h
  cases rx
  have q := k _ h _ _ _ (Ext.refl s g) (.str _)
  rcases hy with rfl | rfl
  · cases ry with
    | lst h2 h3 => rw [h3.strs] at h2; exact ⟨a, _, ys, rfl, rfl, .inl (SqL.of (s _ _ h2)), h1, q⟩
  · cases ry with
    | tup h2 h3 => rw [h3.strs] at h2; exact ⟨a, _, ys, rfl, rfl, .inr (ex_seqT s h2), h1, q⟩
def pyUpper : D → (D → Prop) → Prop
  | .str z, A => (cs z).length ≤ 1000000 ∧ A (.str (Txt.upper z))
  | _, _ => False
def pyLower : D → (D → Prop) → Prop
  | .str z, A => (cs z).length ≤ 1000000 ∧ A (.str (Txt.lower z))
  | _, _ => False
theorem md_upper {K : PySem.W.Frag} : M0D K (fun x xs H Q => ∃ a, x = .str a ∧ xs = [] ∧ a.length ≤ 5592405 ∧ Q (.str (Txt.upper a)) H) pyUpper := fun r0 G H x dx A Q s g rx h k => by
  unfold pyUpper at h
  split at h
  · cases rx; exact ⟨_, rfl, rfl, Nat.le_trans (len_le h.1) (by decide), k _ h.2 _ _ _ (Ext.refl s g) (.str _)⟩
  · exact h.elim
theorem md_lower {K : PySem.W.Frag} : M0D K (fun x xs H Q => ∃ a, x = .str a ∧ xs = [] ∧ a.length ≤ 5592405 ∧ Q (.str (Txt.lower a)) H) pyLower := fun r0 G H x dx A Q s g rx h k => by
  unfold pyLower at h
  split at h
  · cases rx; exact ⟨_, rfl, rfl, Nat.le_trans (len_le h.1) (by decide), k _ h.2 _ _ _ (Ext.refl s g) (.str _)⟩
  · exact h.elim
/-- s.split(e): a new list -/
def dSplit (w1 w2 : DE) : DO := fun ρ A B => w1 ρ (fun ρ1 x => ∃ a, x = .str a ∧ w2 ρ1 (fun ρ2 y => ∃ b, y = .str b ∧ (b.length == 0) = false ∧ (cs a).length ≤ 1000000 ∧ A ρ2 (.l ((Txt.split a b).map D.str))) B) B
theorem pdo_split {w1 w2 : DE} (h : PE X e (tM1 (fun x xs H Q => ∃ a b, x = .str a ∧ xs = [.str b] ∧ (b.length == 0) = false ∧ a.length + 2 ≤ sizeLine ∧ rNewStrs (Txt.split a b) H Q) (rdE X.K xk W w1) (rdE X.K xk W w2))) : PDO X xk W e (dSplit w1 w2) := PE.to h fun σ H Q q => by
  obtain ⟨c, ρ, G, A, B, s, q, kv, kx⟩ := q
  refine ⟨c, ρ, G, _, B, s, q, fun ρ1 x q1 v1 G1 H1 s1 e1 r1 => ?_, kx⟩
  obtain ⟨a, rfl, q1⟩ := q1
  cases r1
  refine ⟨⟨a, rfl⟩, c, ρ1, G1, _, B, s1, q1, fun ρ2 y q2 v2 G2 H2 s2 e2 r2 => ?_, kx.ex e1⟩
  obtain ⟨b, rfl, hb, ha, q2⟩ := q2
  cases r2
  refine ⟨a, b, rfl, rfl, hb, ?_, fun p hp => ?_⟩
  · rw [cs_len, sizeLine_eq]; omega
  · exact kv _ _ q2 _ _ _ (s2.ext (Ext.newO s2.sub s2.Rg hp)) (e1.trans e2) (Tmp.of_new s2 hp (.l (repL_strs _)) nofun)
end
/-! ### lists of one's own -/
section
variable {X : Cx} {xk : Xk} {W : WX} {e : Expr}
/-- x.append(e) -/
def dApp (i : Nat) (w : DA) : DE := fun ρ A B => ∃ l0, ρ[i]? = some (.o (.l l0)) ∧ w ρ (fun ρ1 xs => ∃ l y, ρ1[i]? = some (.o (.l l)) ∧ xs = [y] ∧ l.length < 1000000 ∧ A (ρ1.set i (.o (.l (l ++ [y])))) .non) B
theorem SR.own {K : PySem.W.Frag} {c : Dc} {ρ : Rho} {σ : L2.St} {G H : Hp} (s : SR K xk c ρ σ G H) {i : Nat} {l : List D} (h : ρ[i]? = some (.o (.l l))) : ∃ a vs, σ[i]? = some (some (.ref a)) ∧ H a = some (.lst vs) ∧ RepL K c.r G vs l := by
  obtain ⟨v, hv, a, o, rfl, h2, h3, _⟩ := s.sl i _ h
  cases h3 with
  | l h3 => exact ⟨a, _, hv, h2, h3⟩
theorem pd_app {i : Nat} {w : DA} (h : PE X e (tBM X.K "list" rAppend (tVar i) (rdA X.K xk W w))) : PD X xk W e (dApp i w) := PE.to h fun σ H Q q => by
  obtain ⟨c, ρ, G, A, B, s, ⟨l0, h0, q⟩, kv, kx⟩ := q
  obtain ⟨a, vs, ha, hv, _⟩ := s.own h0
  refine ⟨.ref a, ha, .inl ⟨rfl, _, SqL.of hv⟩, c, ρ, G, _, B, s, q, fun ρ1 xs q1 v1 G1 H1 s1 e1 r1 => ?_, kx⟩
  obtain ⟨l, y, h1, rfl, hl, q1⟩ := q1
  obtain ⟨a', us, ha', hu, ru⟩ := s1.own h1
  rw [ha] at ha'
  cases ha'
  cases r1 with
  | cons r1 r2 =>
    cases r2
    refine ⟨a, us, _, rfl, rfl, hu, by rw [ru.length]; exact big_lt (by omega), ?_⟩
    exact kv _ _ q1 _ _ _ (s1.wr h1 ha (.l (ru.append (.cons r1 .nil))) nofun) e1 .non
/-- x.pop(e) -/
def dPop (i : Nat) (w : DA) : DE := fun ρ A B => ∃ l0, ρ[i]? = some (.o (.l l0)) ∧ w ρ (fun ρ1 xs => ∃ (l : List D) (n : Nat) (y : D), ρ1[i]? = some (.o (.l l)) ∧ xs = [.int n] ∧ l[n]? = some y ∧ n ≤ 1000000 ∧ A (ρ1.set i (.o (.l (l.eraseIdx n)))) y) B
theorem RepL.erase {K : PySem.W.Frag} {r : Option Addr} {G : Hp} : ∀ {vs : List V} {ds : List D} (n : Nat), RepL K r G vs ds → RepL K r G (vs.eraseIdx n) (ds.eraseIdx n)
  | _, _, _, .nil => .nil
  | _, _, 0, .cons a b => b
  | _, _, n + 1, .cons a b => .cons a (b.erase n)
theorem pd_pop {i : Nat} {w : DA} (h : PE X e (tBM X.K "list" rPopAt (tVar i) (rdA X.K xk W w))) : PD X xk W e (dPop i w) := PE.to h fun σ H Q q => by
  obtain ⟨c, ρ, G, A, B, s, ⟨l0, h0, q⟩, kv, kx⟩ := q
  obtain ⟨a, vs, ha, hv, _⟩ := s.own h0
  refine ⟨.ref a, ha, .inl ⟨rfl, _, SqL.of hv⟩, c, ρ, G, _, B, s, q, fun ρ1 xs q1 v1 G1 H1 s1 e1 r1 => ?_, kx⟩
  obtain ⟨l, n, y, h1, rfl, hy, hn, q1⟩ := q1
  obtain ⟨a', us, ha', hu, ru⟩ := s1.own h1
  rw [ha] at ha'
  cases ha'
  cases r1 with
  | cons r1 r2 =>
    cases r2
    cases r1
    obtain ⟨v, hv', rv⟩ := ru.get hy
    have hlt : n < us.length := (List.getElem?_eq_some_iff.mp hv').1
    refine ⟨a, us, n, n, v, rfl, rfl, hu, by omega, by omega, ?_, hv', ?_⟩
    · unfold seqIndex?
      first | (simp; omega) | (simp [hlt]) | skip
    · exact kv _ _ q1 _ _ _ (s1.wr h1 ha (.l (ru.erase n)) nofun) e1 rv
/-- x in l, l a list of one's own -/
def dInO (neg : Bool) (w : DE) (i : Nat) : DE := fun ρ A B => w ρ (fun ρ1 x => ∃ l, ρ1[i]? = some (.o (.l l)) ∧ okD x = true ∧ okD (.lst l) = true ∧ A ρ1 (.bl (if neg then !inD x l else inD x l))) B
theorem SR.lend {K : PySem.W.Frag} {c : Dc} {ρ : Rho} {σ : L2.St} {G H : Hp} (s : SR K xk c ρ σ G H) {i : Nat} {l : List D} (h : ρ[i]? = some (.o (.l l))) : ∃ a G', σ[i]? = some (some (.ref a)) ∧ Ex G G' ∧ Ex G' H ∧ Rep K c.r G' (.ref a) (.lst l) := by
  obtain ⟨v, hv, a, o, rfl, h2, h3, h4, _⟩ := s.sl i _ h
  refine ⟨a, upd G a o, hv, Ex.new h4, fun b u e => ?_, (h3.ex (Ex.new h4)).rep upd_same⟩
  by_cases z : b = a
  · subst z; rw [upd_same] at e; cases e; exact h2
  · rw [upd_ne z] at e; exact s.sub _ _ e
theorem pd_inO {neg : Bool} {w : DE} {i : Nat} (h : PE X e (tOp (fun x y H Q => rInP X.K neg x y H Q ∨ rInS neg x y H Q) (rdE X.K xk W w) (tVar i))) : PD X xk W e (dInO neg w i) := PE.to h fun σ H Q q => by
  obtain ⟨c, ρ, G, A, B, s, q, kv, kx⟩ := q
  refine ⟨c, ρ, G, _, B, s, q, fun ρ1 x q1 v1 G1 H1 s1 e1 r1 => ?_, kx⟩
  obtain ⟨l, h1, ok1, ok2, q1⟩ := q1
  obtain ⟨a, G', ha, eg, es, rl⟩ := s1.lend h1
  exact ⟨_, ha, .inl ⟨c.r, G', _, _, l, es, r1.ex eg, rl, ok1, ok2, .inl rfl, kv _ _ q1 _ _ _ s1 e1 (.bl _)⟩⟩
/-- len(l) -/
def dLenO (i : Nat) : DE := fun ρ A B => ∃ l, ρ[i]? = some (.o (.l l)) ∧ A ρ (.int (l.length : Int))
theorem pd_lenO {i : Nat} (h : PE X e (tCB (fun xs H Q => ∃ p ys, xs = [.ref p] ∧ (SqL X.K H p ys ∨ SqT X.K H p ys) ∧ Q (.int ys.length) H) (tCons (tVar i) tNil))) : PD X xk W e (dLenO i) := PE.to h fun σ H Q q => by
  obtain ⟨c, ρ, G, A, B, s, ⟨l, h0, q⟩, kv, kx⟩ := q
  obtain ⟨a, vs, ha, hv, rl⟩ := s.own h0
  refine ⟨.ref a, ha, a, vs, rfl, .inl (SqL.of hv), ?_⟩
  rw [rl.length]
  exact kv _ _ q _ _ _ s (Same.refl _) (.int _)
end
/-! ### built-in functions -/
def fnLen : List D → (D → Prop) → Prop
  | [.str z], A => (cs z).length ≤ 1000000 ∧ A (.int ((cs z).length : Int))
  | [.lst l], A => A (.int (l.length : Int))
  | [.tup l], A => A (.int (l.length : Int))
  | [.dict l], A => A (.int (l.length : Int))
  | _, _ => False
def rLenA (K : PySem.W.Frag) : List V → Hp → VK → Prop := fun xs H Q => (∃ p ys, xs = [.ref p] ∧ (SqL K H p ys ∨ SqT K H p ys) ∧ Q (.int ys.length) H) ∨ (∃ z, xs = [.str z] ∧ z.length ≤ sizeLine ∧ Q (.int z.length) H) ∨ (∃ a kvs, xs = [V.ref a] ∧ H a = some (.dK kvs) ∧ Q (.int kvs.length) H)
theorem RepK.length {K : PySem.W.Frag} {r : Option Addr} {G : Hp} : ∀ {fs : List (Key × V)} {ds : List (Key × D)}, RepK K r G fs ds → fs.length = ds.length
  | _, _, .nil => rfl
  | _, _, .cons _ q => congrArg (· + 1) q.length
section
variable {X : Cx} {K : PySem.W.Frag}
theorem call_lenA : CallR X (.builtin "len") (rLenA X.K) := CallR.or call_len_seq (CallR.or call_len_str call_lenD)
theorem cd_len : CallD K (rLenA K) fnLen := fun r0 G H xs ds A Q s g rx h k => by
  unfold fnLen at h
  split at h
  · cases rx with
    | cons a b =>
      cases b; cases a
      refine .inr (.inl ⟨_, rfl, str_line h.1, ?_⟩)
      rw [cs_len]
      exact k _ h.2 _ _ _ (Ext.refl s g) (.int _)
  · cases rx with
    | cons a b =>
      cases b
      cases a with
      | lst h1 h2 =>
        refine .inl ⟨_, _, rfl, .inl (SqL.of (s _ _ h1)), ?_⟩
        rw [h2.length]
        exact k _ h _ _ _ (Ext.refl s g) (.int _)
  · cases rx with
    | cons a b =>
      cases b
      cases a with
      | tup h1 h2 =>
        refine .inl ⟨_, _, rfl, .inr (ex_seqT s h1), ?_⟩
        rw [h2.length]
        exact k _ h _ _ _ (Ext.refl s g) (.int _)
  · cases rx with
    | cons a b =>
      cases b
      cases a with
      | dict h1 h2 =>
        refine .inr (.inr ⟨_, _, rfl, s _ _ h1, ?_⟩)
        rw [h2.length]
        exact k _ h _ _ _ (Ext.refl s g) (.int _)
  · exact h.elim
theorem repL1 {r : Option Addr} {G : Hp} {xs : List V} {d : D} (h : RepL K r G xs [d]) : ∃ v, xs = [v] ∧ Rep K r G v d := by
  cases h with
  | cons a b => cases b; exact ⟨_, rfl, a⟩
theorem repL2 {r : Option Addr} {G : Hp} {xs : List V} {d e : D} (h : RepL K r G xs [d, e]) : ∃ v u, xs = [v, u] ∧ Rep K r G v d ∧ Rep K r G u e := by
  cases h with
  | cons a b =>
    obtain ⟨u, rfl, q⟩ := repL1 b
    exact ⟨_, u, rfl, a, q⟩
def fnAll : List D → (D → Prop) → Prop := fun ds A => ∃ bs : List Bool, ds = [.lst (bs.map D.bl)] ∧ A (.bl (bs.all id))
def fnAny : List D → (D → Prop) → Prop := fun ds A => ∃ bs : List Bool, ds = [.lst (bs.map D.bl)] ∧ A (.bl (bs.any id))
theorem cd_all : CallD K (rAll K) fnAll := fun r0 G H xs ds A Q s g rx h k => by
  obtain ⟨bs, rfl, h⟩ := h
  obtain ⟨v, rfl, rv⟩ := repL1 rx
  cases rv with
  | lst h1 h2 => rw [h2.bls] at h1; exact ⟨_, bs, rfl, SqL.of (s _ _ h1), k _ h _ _ _ (Ext.refl s g) (.bl _)⟩
theorem cd_any : CallD K (rAny K) fnAny := fun r0 G H xs ds A Q s g rx h k => by
  obtain ⟨bs, rfl, h⟩ := h
  obtain ⟨v, rfl, rv⟩ := repL1 rx
  cases rv with
  | lst h1 h2 => rw [h2.bls] at h1; exact ⟨_, bs, rfl, SqL.of (s _ _ h1), k _ h _ _ _ (Ext.refl s g) (.bl _)⟩
def fnAbs : List D → (D → Prop) → Prop := fun ds A => ∃ i, ds = [.int i] ∧ A (.int (if i < 0 then -i else i))
theorem cd_abs : CallD K (fun xs H Q => ∃ i, xs = [.int i] ∧ Q (.int (if i < 0 then -i else i)) H) fnAbs := fun r0 G H xs ds A Q s g rx h k => by
  obtain ⟨i, rfl, h⟩ := h
  obtain ⟨v, rfl, rv⟩ := repL1 rx
  cases rv
  exact ⟨i, rfl, k _ h _ _ _ (Ext.refl s g) (.int _)⟩
def fnMax : List D → (D → Prop) → Prop := fun ds A => ∃ i j, ds = [.int i, .int j] ∧ A (.int (if j > i then j else i))
def fnMin : List D → (D → Prop) → Prop := fun ds A => ∃ i j, ds = [.int i, .int j] ∧ A (.int (if j < i then j else i))
theorem cd_max : CallD K (fun xs H Q => ∃ i j, xs = [.int i, .int j] ∧ Q (.int (if j > i then j else i)) H) fnMax := fun r0 G H xs ds A Q s g rx h k => by
  obtain ⟨i, j, rfl, h⟩ := h
  obtain ⟨v, u, rfl, rv, ru⟩ := repL2 rx
  cases rv; cases ru
  exact ⟨i, j, rfl, k _ h _ _ _ (Ext.refl s g) (.int _)⟩
theorem cd_min : CallD K (fun xs H Q => ∃ i j, xs = [.int i, .int j] ∧ Q (.int (if j < i then j else i)) H) fnMin := fun r0 G H xs ds A Q s g rx h k => by
  obtain ⟨i, j, rfl, h⟩ := h
  obtain ⟨v, u, rfl, rv, ru⟩ := repL2 rx
  cases rv; cases ru
  exact ⟨i, j, rfl, k _ h _ _ _ (Ext.refl s g) (.int _)⟩
def fnStrI : List D → (D → Prop) → Prop := fun ds A => ∃ i, ds = [.int i] ∧ i.natAbs.log2 < 1920 ∧ A (.str (toString i))
theorem cd_strI : CallD K (fun xs H Q => ∃ i, xs = [.int i] ∧ i.natAbs.log2 < 1920 ∧ Q (.str (toString i)) H) fnStrI := fun r0 G H xs ds A Q s g rx h k => by
  obtain ⟨i, rfl, h1, h⟩ := h
  obtain ⟨v, rfl, rv⟩ := repL1 rx
  cases rv
  exact ⟨i, rfl, h1, k _ h _ _ _ (Ext.refl s g) (.str _)⟩
/-- tuple(x) -/
def fnTup : List D → (D → Prop) → Prop
  | [.lst l], A => A (.tup l)
  | [.tup l], A => A (.tup l)
  | _, _ => False
theorem cd_tup : CallD K (fun xs H Q => ∃ p ys, xs = [.ref p] ∧ ((SqL K H p ys ∧ ∀ l, H l = none → Q (.ref l) (upd H l (.tup ys))) ∨ (SqT K H p ys ∧ Q (.ref p) H))) fnTup := fun r0 G H xs ds A Q s g rx h k => by
  unfold fnTup at h
  split at h
  · obtain ⟨v, rfl, rv⟩ := repL1 rx
    cases rv with
    | lst h1 h2 =>
      refine ⟨_, _, rfl, .inl ⟨SqL.of (s _ _ h1), fun p hp => ?_⟩⟩
      have E := new_tup s g hp h2
      exact k _ h _ _ _ E.1 E.2
  · obtain ⟨v, rfl, rv⟩ := repL1 rx
    cases rv with
    | tup h1 h2 => exact ⟨_, _, rfl, .inr ⟨ex_seqT s h1, k _ h _ _ _ (Ext.refl s g) (.tup h1 h2)⟩⟩
  · exact h.elim
end
/-- a function that hands back a new list -/
def CallO (K : PySem.W.Frag) (r : List V → Hp → VK → Prop) (f : List D → (List D → Prop) → Prop) : Prop := ∀ r0 G H xs ds (A : List D → Prop) (Q : VK), Ex G H → RepL K r0 G xs ds → f ds A →
  (∀ l, A l → ∀ p vs, H p = none → RepL K r0 G vs l → Q (.ref p) (upd H p (.lst vs))) → r xs H Q
def dFnO (f : List D → (List D → Prop) → Prop) (w : DA) : DO := fun ρ A B => w ρ (fun ρ1 xs => f xs fun l => A ρ1 (.l l)) B
section
variable {X : Cx} {xk : Xk} {W : WX} {e : Expr} {K : PySem.W.Frag}
theorem pdo_fn {r : List V → Hp → VK → Prop} {f : List D → (List D → Prop) → Prop} {w : DA} (hd : CallO X.K r f) (h : PE X e (tCB r (rdA X.K xk W w))) : PDO X xk W e (dFnO f w) := PE.to h fun σ H Q q => by
  obtain ⟨c, ρ, G, A, B, s, q, kv, kx⟩ := q
  refine ⟨c, ρ, G, _, B, s, q, fun ρ1 x q1 v1 G1 H1 s1 e1 r1 => ?_, kx⟩
  exact hd c.r G1 H1 _ _ _ _ s1.sub r1 q1 fun l hl p vs hp rl => kv _ _ hl _ _ _ (s1.ext (Ext.newO s1.sub s1.Rg hp)) e1 (Tmp.of_new s1 hp (.l rl) nofun)
def fnList : List D → (List D → Prop) → Prop
  | [.lst l], A => A l
  | [.tup l], A => A l
  | _, _ => False
theorem co_list : CallO K (fun xs H Q => ∃ p ys, xs = [.ref p] ∧ (SqL K H p ys ∨ SqT K H p ys) ∧ ∀ l, H l = none → Q (.ref l) (upd H l (.lst ys))) fnList := fun r0 G H xs ds A Q s rx h k => by
  unfold fnList at h
  split at h
  · obtain ⟨v, rfl, rv⟩ := repL1 rx
    cases rv with
    | lst h1 h2 => exact ⟨_, _, rfl, .inl (SqL.of (s _ _ h1)), fun p hp => k _ h p _ hp h2⟩
  · obtain ⟨v, rfl, rv⟩ := repL1 rx
    cases rv with
    | tup h1 h2 => exact ⟨_, _, rfl, .inr (ex_seqT s h1), fun p hp => k _ h p _ hp h2⟩
  · exact h.elim
/-- sorted(a list of texts) -/
def fnSortS : List D → (List D → Prop) → Prop := fun ds A => ∃ xs : List Str, ds = [.lst (xs.map D.str)] ∧ xs.length < 64 ∧ ∀ ys : List Str, ys.Perm xs → sortedS ys = true → A (ys.map D.str)
theorem co_sortS : CallO K (rSortedS K) fnSortS := fun r0 G H xs ds A Q s rx h k => by
  obtain ⟨zs, rfl, h1, h⟩ := h
  obtain ⟨v, rfl, rv⟩ := repL1 rx
  cases rv with
  | lst h2 h3 => rw [h3.strs] at h2; exact ⟨_, zs, rfl, SqL.of (s _ _ h2), h1, fun ys p hp hs hn => k _ (h ys hp hs) p _ hn (repL_strs _)⟩
/-- sorted(set(a list of texts)) -/
def dSortSet (w : DE) : DO := fun ρ A B => w ρ (fun ρ1 x => ∃ xs : List Str, x = .lst (xs.map D.str) ∧ xs.length < 64 ∧ A ρ1 (.l ((srt xs).map D.str))) B
theorem pdo_sortSet {w : DE} (h : PE X e (tSortSet X.K (rdE X.K xk W w))) : PDO X xk W e (dSortSet w) := PE.to h fun σ H Q q => by
  obtain ⟨c, ρ, G, A, B, s, q, kv, kx⟩ := q
  refine ⟨c, ρ, G, _, B, s, q, fun ρ1 x q1 v1 G1 H1 s1 e1 r1 => ?_, kx⟩
  obtain ⟨xs, rfl, hl, q1⟩ := q1
  cases r1 with
  | lst h2 h3 =>
    rw [h3.strs] at h2
    refine ⟨_, xs, rfl, SqL.of (s1.sub _ _ h2), hl, fun ys p hs hn hm hp => ?_⟩
    have e : ys = srt xs := srt_eq hs hn hm
    subst e
    exact kv _ _ q1 _ _ _ (s1.ext (Ext.newO s1.sub s1.Rg hp)) e1 (Tmp.of_new s1 hp (.l (repL_strs _)) nofun)
end
end Ab

set_option Elab.async false
set_option linter.all false
set_option maxRecDepth 100000
set_option maxHeartbeats 4000000
/-! DxG: isinstance, repr. -/
namespace Ab
open PySem PySem.Spec PyProof.Rows L2
/-! ### isinstance -/
abbrev kinds : List String := ["NoneType", "bool", "int", "str", "list", "tuple", "dict"]
def tyOf : D → Option String
  | .non => some "NoneType"
  | .bl _ => some "bool"
  | .int _ => some "int"
  | .str _ => some "str"
  | .lst _ => some "list"
  | .tup _ => some "tuple"
  | .dict _ => some "dict"
  | .rng => some "list"
  | _ => none
/-- a thing whose kind is known -/
def kn (own : List Str) : D → Bool
  | .ty _ => false
  | .cls _ => false
  | .obj C _ => decide (C ∈ own)
  | _ => true
def isStrD : D → Bool
  | .str _ => true
  | _ => false
def isIntD : D → Bool
  | .int _ => true
  | .bl _ => true
  | _ => false
def isBlD : D → Bool
  | .bl _ => true
  | _ => false
def isLstD : D → Bool
  | .lst _ => true
  | .rng => true
  | _ => false
def isTupD : D → Bool
  | .tup _ => true
  | _ => false
def isDicD : D → Bool
  | .dict _ => true
  | _ => false
def isObjD (sub : Str → Str → Bool) (C : Str) : D → Bool
  | .obj C' _ => sub C' C
  | _ => false
/-- what the head tells of the classes of the program's own -/
def ownB (K : PySem.W.Frag) (own : List Str) (sub : Str → Str → Bool) : Bool := own.all fun C => insB K C && (kinds.all (fun n => decide (PySem.W.kitOne K (.ref (He.ga K C)) (.type n) = some false) && decide (PySem.W.kitOne K (.type n) (.ref (He.ga K C)) = some false)) &&
  own.all fun C' => decide (PySem.W.kitOne K (.ref (He.ga K C)) (.ref (He.ga K C')) = some (sub C C')))
structure OwnF (K : PySem.W.Frag) (own : List Str) (sub : Str → Str → Bool) : Prop where
  b : ownB K own sub = true
  cls : ∀ C ∈ own, Cls K (He.ga K C)
section
variable {K : PySem.W.Frag} {own : List Str} {sub : Str → Str → Bool} {r : Option Addr} {G H : Hp}
theorem OwnF.ins (O : OwnF K own sub) {C : Str} (h : C ∈ own) : insB K C = true := (He.ba (List.all_eq_true.mp O.b C h)).1
theorem OwnF.ob (O : OwnF K own sub) {C : Str} (h : C ∈ own) {n : String} (hn : n ∈ kinds) : PySem.W.kitOne K (.ref (He.ga K C)) (.type n) = some false :=
  of_decide_eq_true (He.ba (List.all_eq_true.mp (He.ba (He.ba (List.all_eq_true.mp O.b C h)).2).1 n hn)).1
theorem OwnF.bo (O : OwnF K own sub) {C : Str} (h : C ∈ own) {n : String} (hn : n ∈ kinds) : PySem.W.kitOne K (.type n) (.ref (He.ga K C)) = some false :=
  of_decide_eq_true (He.ba (List.all_eq_true.mp (He.ba (He.ba (List.all_eq_true.mp O.b C h)).2).1 n hn)).2
theorem OwnF.oo (O : OwnF K own sub) {C C' : Str} (h : C ∈ own) (h' : C' ∈ own) : PySem.W.kitOne K (.ref (He.ga K C)) (.ref (He.ga K C')) = some (sub C C') :=
  of_decide_eq_true (List.all_eq_true.mp (He.ba (He.ba (List.all_eq_true.mp O.b C h)).2).2 C' h')
theorem tyx_tup {a : Addr} {vs : List V} (h : SqT K H a vs) : TyX K H (.ref a) (.type "tuple") := by
  rcases h with (h | ⟨o, h⟩) | ⟨o, its, n, h1, h2, _⟩
  · exact .base (.tup h)
  · exact .fTuple h
  · exact .kTuple h1 h2
theorem rep_ty {v : V} {d : D} {m : String} (s : Ex G H) (g : Rg r G H) (h : Rep K r G v d) (e : tyOf d = some m) : TyX K H v (.type m) := by
  cases h with
  | non => cases e; exact .base .non
  | bl b => cases e; exact .base (.bl b)
  | int i => cases e; exact .base (.int i)
  | str z => cases e; exact .base (.str z)
  | ty n => cases e
  | cls C => cases e
  | rng q => cases e; obtain ⟨⟨_, _, k, _⟩, _⟩ := g _ q; exact .base (.lst k)
  | lst q _ => cases e; exact .base (.lst (s _ _ q))
  | tup q _ => cases e; exact tyx_tup (ex_seqT s q)
  | dict q _ => cases e; exact .base (.dK (s _ _ q))
  | obj _ _ => cases e
theorem ty_kinds {d : D} {m : String} (h : tyOf d = some m) : m ∈ kinds := by
  cases d <;> first | (cases h; decide) | cases h
theorem kn_ty (O : OwnF K own sub) {v : V} {d : D} (s : Ex G H) (g : Rg r G H) (h : Rep K r G v d) (hk : kn own d = true) : (∃ m, tyOf d = some m ∧ TyX K H v (.type m)) ∨ ∃ C fs, d = .obj C fs ∧ C ∈ own ∧ TyX K H v (.ref (He.ga K C)) := by
  cases d with
  | obj C fs =>
    have hC : C ∈ own := of_decide_eq_true hk
    cases h with
    | obj q _ => exact .inr ⟨C, fs, rfl, hC, insB_ok (O.ins hC) (O.cls C hC) (s _ _ q)⟩
  | ty n => cases hk
  | cls C => cases hk
  | _ => exact .inl ⟨_, rfl, rep_ty s g h rfl⟩
/-- isinstance(x, n) -/
def fnIsi (own : List Str) (n : String) (f : D → Bool) : List D → (D → Prop) → Prop := fun ds A => ∃ x, ds = [x, .ty n] ∧ kn own x = true ∧ A (.bl (f x))
theorem cd_isi (O : OwnF K own sub) (n : String) (f : D → Bool) (hn : n ∈ kinds) (h1 : ∀ d m, tyOf d = some m → kitB m n = some (f d)) (h2 : ∀ C fs, f (.obj C fs) = false) : CallD K (rIsi K) (fnIsi own n f) := fun r0 G H xs ds A Q s g rx h k => by
  obtain ⟨x, rfl, hk, h⟩ := h
  obtain ⟨v, u, rfl, rv, ru⟩ := repL2 rx
  cases ru
  have q := k _ h _ _ _ (Ext.refl s g) (.bl _)
  rcases kn_ty O s g rv hk with ⟨m, e, t⟩ | ⟨C, fs, rfl, hC, t⟩
  · exact ⟨_, _, _, _, _, rfl, .ty n, t, kit_ty (h1 x m e), q⟩
  · rw [h2] at q
    exact ⟨_, _, _, _, _, rfl, .ty n, t, O.ob hC hn, q⟩
theorem tyOf_cases {p : D → String → Prop} (h0 : p .non "NoneType") (h1 : ∀ b, p (.bl b) "bool") (h2 : ∀ i, p (.int i) "int") (h3 : ∀ z, p (.str z) "str") (h4 : ∀ l, p (.lst l) "list") (h5 : ∀ l, p (.tup l) "tuple") (h6 : ∀ l, p (.dict l) "dict") (h7 : p .rng "list") :
    ∀ d m, tyOf d = some m → p d m := fun d m e => by
  cases d <;> first | (cases e; first | exact h0 | exact h1 _ | exact h2 _ | exact h3 _ | exact h4 _ | exact h5 _ | exact h6 _ | exact h7) | cases e
theorem k_str : ∀ d m, tyOf d = some m → kitB m "str" = some (isStrD d) := tyOf_cases (by decide +kernel) (fun _ => (by decide +kernel : kitB "bool" "str" = some false)) (fun _ => (by decide +kernel : kitB "int" "str" = some false)) (fun _ => (by decide +kernel : kitB "str" "str" = some true)) (fun _ => (by decide +kernel : kitB "list" "str" = some false)) (fun _ => (by decide +kernel : kitB "tuple" "str" = some false)) (fun _ => (by decide +kernel : kitB "dict" "str" = some false)) (by decide +kernel)
theorem k_int : ∀ d m, tyOf d = some m → kitB m "int" = some (isIntD d) := tyOf_cases (by decide +kernel) (fun _ => (by decide +kernel : kitB "bool" "int" = some true)) (fun _ => (by decide +kernel : kitB "int" "int" = some true)) (fun _ => (by decide +kernel : kitB "str" "int" = some false)) (fun _ => (by decide +kernel : kitB "list" "int" = some false)) (fun _ => (by decide +kernel : kitB "tuple" "int" = some false)) (fun _ => (by decide +kernel : kitB "dict" "int" = some false)) (by decide +kernel)
theorem k_bool : ∀ d m, tyOf d = some m → kitB m "bool" = some (isBlD d) := tyOf_cases (by decide +kernel) (fun _ => (by decide +kernel : kitB "bool" "bool" = some true)) (fun _ => (by decide +kernel : kitB "int" "bool" = some false)) (fun _ => (by decide +kernel : kitB "str" "bool" = some false)) (fun _ => (by decide +kernel : kitB "list" "bool" = some false)) (fun _ => (by decide +kernel : kitB "tuple" "bool" = some false)) (fun _ => (by decide +kernel : kitB "dict" "bool" = some false)) (by decide +kernel)
theorem k_list : ∀ d m, tyOf d = some m → kitB m "list" = some (isLstD d) := tyOf_cases (by decide +kernel) (fun _ => (by decide +kernel : kitB "bool" "list" = some false)) (fun _ => (by decide +kernel : kitB "int" "list" = some false)) (fun _ => (by decide +kernel : kitB "str" "list" = some false)) (fun _ => (by decide +kernel : kitB "list" "list" = some true)) (fun _ => (by decide +kernel : kitB "tuple" "list" = some false)) (fun _ => (by decide +kernel : kitB "dict" "list" = some false)) (by decide +kernel)
theorem k_tuple : ∀ d m, tyOf d = some m → kitB m "tuple" = some (isTupD d) := tyOf_cases (by decide +kernel) (fun _ => (by decide +kernel : kitB "bool" "tuple" = some false)) (fun _ => (by decide +kernel : kitB "int" "tuple" = some false)) (fun _ => (by decide +kernel : kitB "str" "tuple" = some false)) (fun _ => (by decide +kernel : kitB "list" "tuple" = some false)) (fun _ => (by decide +kernel : kitB "tuple" "tuple" = some true)) (fun _ => (by decide +kernel : kitB "dict" "tuple" = some false)) (by decide +kernel)
theorem k_dict : ∀ d m, tyOf d = some m → kitB m "dict" = some (isDicD d) := tyOf_cases (by decide +kernel) (fun _ => (by decide +kernel : kitB "bool" "dict" = some false)) (fun _ => (by decide +kernel : kitB "int" "dict" = some false)) (fun _ => (by decide +kernel : kitB "str" "dict" = some false)) (fun _ => (by decide +kernel : kitB "list" "dict" = some false)) (fun _ => (by decide +kernel : kitB "tuple" "dict" = some false)) (fun _ => (by decide +kernel : kitB "dict" "dict" = some true)) (by decide +kernel)
theorem cd_isStr (O : OwnF K own sub) : CallD K (rIsi K) (fnIsi own "str" isStrD) := cd_isi O _ _ (by decide) k_str fun _ _ => rfl
theorem cd_isInt (O : OwnF K own sub) : CallD K (rIsi K) (fnIsi own "int" isIntD) := cd_isi O _ _ (by decide) k_int fun _ _ => rfl
theorem cd_isBool (O : OwnF K own sub) : CallD K (rIsi K) (fnIsi own "bool" isBlD) := cd_isi O _ _ (by decide) k_bool fun _ _ => rfl
theorem cd_isList (O : OwnF K own sub) : CallD K (rIsi K) (fnIsi own "list" isLstD) := cd_isi O _ _ (by decide) k_list fun _ _ => rfl
theorem cd_isTuple (O : OwnF K own sub) : CallD K (rIsi K) (fnIsi own "tuple" isTupD) := cd_isi O _ _ (by decide) k_tuple fun _ _ => rfl
theorem cd_isDict (O : OwnF K own sub) : CallD K (rIsi K) (fnIsi own "dict" isDicD) := cd_isi O _ _ (by decide) k_dict fun _ _ => rfl
/-- isinstance(x, C), C a class of one's own -/
def fnIsO (own : List Str) (sub : Str → Str → Bool) (C : Str) : List D → (D → Prop) → Prop := fun ds A => ∃ x, ds = [x, .cls C] ∧ kn own x = true ∧ A (.bl (isObjD sub C x))
theorem cd_isO (O : OwnF K own sub) (C : Str) (hC : C ∈ own) : CallD K (rIsi K) (fnIsO own sub C) := fun r0 G H xs ds A Q s g rx h k => by
  obtain ⟨x, rfl, hk, h⟩ := h
  obtain ⟨v, u, rfl, rv, ru⟩ := repL2 rx
  cases ru
  have q := k _ h _ _ _ (Ext.refl s g) (.bl _)
  rcases kn_ty O s g rv hk with ⟨m, e, t⟩ | ⟨C', fs, rfl, hC', t⟩
  · have e2 : isObjD sub C x = false := by cases x <;> first | rfl | cases e
    rw [e2] at q
    exact ⟨_, _, _, _, _, rfl, .own _, t, O.bo hC (ty_kinds e), q⟩
  · exact ⟨_, _, _, _, _, rfl, .own _, t, O.oo hC' hC, q⟩
end
/-! ### repr -/
def kD : Key → PyData
  | .inl i => .int i
  | .inr z => .str z
mutual
def toP : D → PyData
  | .non => .none
  | .bl b => .bool b
  | .int i => .int i
  | .str z => .str z
  | .lst l => .list (toPL l)
  | .tup l => .tuple (toPL l)
  | .dict l => .dict (toPK l)
  | _ => .none
def toPL : List D → List PyData
  | [] => []
  | x :: xs => toP x :: toPL xs
def toPK : List (Key × D) → List (PyData × PyData)
  | [] => []
  | (k, x) :: xs => (kD k, toP x) :: toPK xs
end
mutual
/-- what has a repr here; lf: no lists within, nd: no dicts within -/
def rpD (lf nd : Bool) : D → Bool
  | .non => true
  | .bl _ => true
  | .int _ => true
  | .str _ => true
  | .lst l => !lf && rpL lf nd l
  | .tup l => rpL lf nd l
  | .dict l => !nd && rpK lf nd l
  | _ => false
def rpL (lf nd : Bool) : List D → Bool
  | [] => true
  | x :: xs => rpD lf nd x && rpL lf nd xs
def rpK (lf nd : Bool) : List (Key × D) → Bool
  | [] => true
  | (_, x) :: xs => rpD lf nd x && rpK lf nd xs
end
def shD (d : D) : Str := (toP d).shown
def okR (d : D) : Bool := (rpD true false d || rpD false true d) && ((toP d).showable && decide ((toP d).depth ≤ 60))
section
variable {X : Cx} {pins : List (Addr × Obj)} {σ : L2.St} {G H : Hp} {s : Shared} {r : Option Addr} {lf nd : Bool}
theorem ents_keys {P : Program} {w : World} {h : Heap} : ∀ {kvs : List (Key × V)} {ws : List (Key × Value)} {es : List DictEntry} {ds : List (Key × D)}, KV kvs ws → Pairs (mixKind P w) es ws → RepK X.K r G kvs ds → ReadsAll h (es.map (·.key)) ((toPK ds).map (·.1)) []
  | _, _, _, _, .nil, .nil, .nil => .nil
  | (k, v) :: _, q :: _, e :: _, (_, _) :: _, .cons r rs, .cons h1 h2 h3, .cons a b => by
    refine .cons (as := []) (bs := []) ?_ (ents_keys rs h3 b)
    show Reads h e.key (kD k) []
    rw [← r.1] at h1
    rcases keyIs_shape h1 with ⟨i, t, e1, e2⟩ | ⟨x, t, e1, e2⟩
    · have e1 : k = Sum.inl i := e1
      rw [e1, e2]; exact .int i t
    · have e1 : k = Sum.inr x := e1
      rw [e1, e2]; exact .str x t
mutual
theorem Rep.reads (I : Inv X pins σ H s) (e : Ex G H) : ∀ {v : V} {d : D}, Rep X.K r G v d → rpD lf nd d = true → ∀ {u : Value}, RelV v u → ∃ as, Reads s.heap u (toP d) as ∧ (lf = true → sysModules ∉ as)
  | _, _, .non, _, _, q => by cases q; exact ⟨_, .none, fun _ => List.not_mem_nil⟩
  | _, _, .bl b, _, _, q => by cases q; exact ⟨_, .bool b, fun _ => List.not_mem_nil⟩
  | _, _, .int i, _, _, q => by obtain ⟨t, rfl⟩ := q; exact ⟨_, .int i t, fun _ => List.not_mem_nil⟩
  | _, _, .str z, _, _, q => by obtain ⟨t, rfl⟩ := q; exact ⟨_, .str z t, fun _ => List.not_mem_nil⟩
  | _, _, .lst h1 h2, p, _, q => by
    cases q
    obtain ⟨p1, p2⟩ := Bool.and_eq_true_iff.mp (show (!lf && rpL lf nd _) = true from p)
    obtain ⟨its, rv, ⟨o, n, ho, hc, _, hd⟩, _⟩ := I.list (SqL.of (e _ _ h1))
    obtain ⟨as, hr, _⟩ := RepL.reads I e h2 p2 rv
    exact ⟨_, .list ho hc hd (by simpa using hr), fun z => by rw [z] at p1; cases p1⟩
  | _, _, .tup h1 h2, p, _, q => by
    cases q
    obtain ⟨its, rv, ⟨o, ho, hc, n, hd⟩, _⟩ := I.tuple (ex_seqT e h1)
    obtain ⟨as, hr, hs⟩ := RepL.reads I e h2 (show rpL lf nd _ = true from p) rv
    exact ⟨_, .tuple ho hc hd (by simpa using hr), hs⟩
  | _, _, .dict h1 h2, p, _, q => by
    cases q
    obtain ⟨p1, p2⟩ := Bool.and_eq_true_iff.mp (show (!nd && rpK lf nd _) = true from p)
    obtain ⟨_, hsm, ws, rw', o, es, ep, ho, hx, hda, _, hp, _⟩ := dk_of I.hok (e _ _ h1)
    obtain ⟨bs, hr, hs⟩ := RepK.reads I e h2 p2 rw' hp
    refine ⟨_, .dict ho hx.1 hda (ents_keys rw' hp h2) hr, fun z => ?_⟩
    intro hm
    rcases List.mem_cons.mp (by simpa using hm) with k | k
    · have k : sysModules = _ := k
      rw [← k] at hsm
      simp at hsm
    · exact hs z k
  | _, _, .ty _, p, _, _ => by cases p
  | _, _, .cls _, p, _, _ => by cases p
  | _, _, .rng _, p, _, _ => by cases p
  | _, _, .obj _ _, p, _, _ => by cases p
theorem RepL.reads (I : Inv X pins σ H s) (e : Ex G H) : ∀ {v : List V} {d : List D}, RepL X.K r G v d → rpL lf nd d = true → ∀ {u : List Value}, Vals v u → ∃ as, ReadsAll s.heap u (toPL d) as ∧ (lf = true → sysModules ∉ as)
  | _, _, .nil, _, _, q => by cases q; exact ⟨_, .nil, fun _ => List.not_mem_nil⟩
  | _, _, .cons h1 h2, p, _, q => by
    cases q with
    | cons q1 q2 =>
      obtain ⟨p1, p2⟩ := Bool.and_eq_true_iff.mp (show (rpD lf nd _ && rpL lf nd _) = true from p)
      obtain ⟨as, k1, k2⟩ := Rep.reads I e h1 p1 q1
      obtain ⟨bs, k3, k4⟩ := RepL.reads I e h2 p2 q2
      exact ⟨_, .cons k1 k3, fun z hm => (List.mem_append.mp hm).elim (k2 z) (k4 z)⟩
theorem RepK.reads (I : Inv X pins σ H s) (e : Ex G H) : ∀ {v : List (Key × V)} {d : List (Key × D)}, RepK X.K r G v d → rpK lf nd d = true → ∀ {ws : List (Key × Value)} {es : List DictEntry}, KV v ws → Pairs (mixKind X.prog X.w) es ws → ∃ as, ReadsAll s.heap (es.map (·.val)) ((toPK d).map (·.2)) as ∧ (lf = true → sysModules ∉ as)
  | _, _, .nil, _, _, _, q, k => by cases q; cases k; exact ⟨_, .nil, fun _ => List.not_mem_nil⟩
  | _, _, .cons h1 h2, p, _, _, q, k => by
    cases q with
    | cons q1 q2 =>
      cases k with
      | cons k0 kv ks =>
        obtain ⟨p1, p2⟩ := Bool.and_eq_true_iff.mp (show (rpD lf nd _ && rpK lf nd _) = true from p)
        obtain ⟨as, z1, z2⟩ := Rep.reads I e h1 p1 q1.2
        obtain ⟨bs, z3, z4⟩ := RepK.reads I e h2 p2 q2 ks
        refine ⟨as ++ bs, .cons ?_ z3, fun z hm => (List.mem_append.mp hm).elim (z2 z) (z4 z)⟩
        show Reads s.heap _ (toP _) as
        have kv' : ∀ {x y : Value} {d : PyData}, x = y → Reads s.heap y d as → Reads s.heap x d as := fun e h => e ▸ h
        exact kv' kv z1
end
mutual
theorem rp_nodict : ∀ (d : D), rpD lf true d = true → (toP d).hasDict = false
  | .non, _ => rfl
  | .bl _, _ => rfl
  | .int _, _ => rfl
  | .str _, _ => rfl
  | .lst l, h => rpL_nodict l (Bool.and_eq_true_iff.mp (show (!lf && rpL lf true l) = true from h)).2
  | .tup l, h => rpL_nodict l h
  | .dict l, h => by cases (Bool.and_eq_true_iff.mp (show (!true && rpK lf true l) = true from h)).1
  | .obj _ _, h => by cases h
  | .ty _, h => by cases h
  | .cls _, h => by cases h
  | .rng, h => by cases h
theorem rpL_nodict : ∀ (l : List D), rpL lf true l = true → PyData.hasDictAll (toPL l) = false
  | [], _ => rfl
  | x :: xs, h => by
    obtain ⟨h1, h2⟩ := Bool.and_eq_true_iff.mp (show (rpD lf true x && rpL lf true xs) = true from h)
    show ((toP x).hasDict || PyData.hasDictAll (toPL xs)) = false
    rw [rp_nodict x h1, rpL_nodict xs h2]
    rfl
end
end
def rReprP (K : PySem.W.Frag) : List V → Hp → VK → Prop := fun xs H Q => ∃ v r G d, xs = [v] ∧ Ex G H ∧ Rep K r G v d ∧ okR d = true ∧ (shD d).length ≤ sizeLine ∧ Q (.str (shD d)) H
theorem call_reprP {X : Cx} (hg : X.A.guards = some []) (hu : X.A.units + 64 < cLine) : CallR X (.builtin "repr") (rReprP X.K) := by
  intro pins s σ H xs us Q I rv h
  obtain ⟨v, r, G, d, rfl, e, rd, ok, hsz, q⟩ := h
  obtain ⟨u, rfl, ru⟩ := vals1 rv
  obtain ⟨o1, o2⟩ := He.ba ok
  obtain ⟨hs, hdep⟩ := He.ba o2
  have hdep := of_decide_eq_true hdep
  have main : ∃ as, Reads s.heap u (toP d) as ∧ ((toP d).hasDict = true → sysModules ∉ as) := by
    rcases Bool.or_eq_true_iff.mp o1 with o1 | o1
    · obtain ⟨as, k1, k2⟩ := rd.reads I e o1 ru
      exact ⟨as, k1, fun _ => k2 rfl⟩
    · obtain ⟨as, k1, _⟩ := rd.reads I e o1 ru
      exact ⟨as, k1, fun z => by rw [rp_nodict d o1] at z; cases z⟩
  obtain ⟨as, k1, k2⟩ := main
  cases rd with
  | non => cases ru; exact PySem.P.repr_of_none ⟨.str _, H, I.tok _, ⟨_, rfl⟩, q⟩
  | bl b =>
    cases ru
    cases b
    · exact PySem.P.repr_of_bool (b := false) ⟨.str _, H, I.tok _, ⟨_, rfl⟩, q⟩
    · exact PySem.P.repr_of_bool (b := true) ⟨.str _, H, I.tok _, ⟨_, rfl⟩, q⟩
  | int i =>
    obtain ⟨t, rfl⟩ := ru
    exact PySem.P.repr_of_int (of_decide_eq_true hs) ⟨.str _, H, I.tok _, ⟨_, rfl⟩, q⟩
  | str x =>
    obtain ⟨t, rfl⟩ := ru
    exact PySem.P.repr_of_str ⟨.str _, H, I.tok _, ⟨_, rfl⟩, q⟩ hsz
  | ty _ => cases o1
  | cls _ => cases o1
  | rng _ => cases o1
  | obj _ _ => cases o1
  | lst h1 h2 => cases ru; exact repr_of_reads' k1 hs k2 hg (by omega) (fun _ _ e => e) (fun h' u tk kp => ⟨.str _, H, I.kept kp, ⟨u, rfl⟩, q⟩) hsz
  | tup h1 h2 => cases ru; exact repr_of_reads' k1 hs k2 hg (by omega) (fun _ _ e => e) (fun h' u tk kp => ⟨.str _, H, I.kept kp, ⟨u, rfl⟩, q⟩) hsz
  | dict h1 h2 => cases ru; exact repr_of_reads' k1 hs k2 hg (by omega) (fun _ _ e => e) (fun h' u tk kp => ⟨.str _, H, I.kept kp, ⟨u, rfl⟩, q⟩) hsz
def fnRepr : List D → (D → Prop) → Prop := fun ds A => ∃ x, ds = [x] ∧ okR x = true ∧ (cs (shD x)).length ≤ 1000000 ∧ A (.str (shD x))
theorem cd_repr {K : PySem.W.Frag} : CallD K (rReprP K) fnRepr := fun r0 G H xs ds A Q s g rx h k => by
  obtain ⟨x, rfl, h1, h2, h⟩ := h
  obtain ⟨v, rfl, rv⟩ := repL1 rx
  exact ⟨v, r0, G, x, rfl, s, rv, h1, str_line h2, k _ h _ _ _ (Ext.refl s g) (.str _)⟩
/-- repr of a text, whatever runs around -/
def fnReprS : List D → (D → Prop) → Prop := fun ds A => ∃ z, ds = [.str z] ∧ (reprText z).length ≤ 1000000 ∧ A (.str (reprText z))
theorem cd_reprS {K : PySem.W.Frag} : CallD K (fun xs H Q => ∃ z : Str, xs = [.str z] ∧ (reprText z).length ≤ sizeLine ∧ Q (.str (reprText z)) H) fnReprS := fun r0 G H xs ds A Q s g rx h k => by
  obtain ⟨z, rfl, h2, h⟩ := h
  obtain ⟨v, rfl, rv⟩ := repL1 rx
  cases rv
  exact ⟨z, rfl, big_le h2, k _ h _ _ _ (Ext.refl s g) (.str _)⟩
theorem shD_str (z : Str) : shD (.str z) = reprText z := rfl
end Ab

set_option Elab.async false
set_option linter.all false
set_option maxRecDepth 100000
set_option maxHeartbeats 4000000
/-! DxH: defs that raise and defs that don't, drawing, own classes, errors. -/
namespace Ab
open PySem PySem.Spec PyProof.Rows L2
section
variable {g : Bool} {P : Program} {w : World} {K : PySem.W.Frag} {mg : Str → Option Value} {base : Heap} {k : Nat} {d : He.DefD} {f : Addr} {fd : FuncData} {ps : List Str} {sp sp' : Sp}
/-- a promise without exceptions is one with them -/
theorem Fo.conv (F : Fo g P w K mg base CX0 k d ps sp) (h : ∀ vs H Q E, sp' vs H Q E → sp vs H Q E) : Fo g P w K mg base (L2.CX P w) k d ps sp' := by
  obtain ⟨fd, F1, FD⟩ := F
  refine ⟨fd, ⟨fun vs H Q E q => F1.len vs H Q E (h _ _ _ _ q), fun A outer s H args us vs Q E hg hr e0 hb r hs => codeAny_mono (F1.go A outer s H args us vs Q E hg hr e0 hb r (h _ _ _ _ hs)) fun r s' hq => ?_⟩, FD⟩
  cases r with
  | error e => exact hq.elim
  | ok fl => cases fl <;> exact hq
/-- where nothing may be raised -/
def noE (sp : Sp) : Sp := fun vs H Q _ => sp vs H Q (fun _ _ _ => False)
theorem Fq.cx0 (F : Fq g P w K mg base (L2.CX P w) k f fd ps sp) : Fq g P w K mg base CX0 k f fd ps (noE sp) := by
  refine ⟨fun vs H Q E q => F.len vs H Q _ q, fun A outer s H args us vs Q E hg hr e0 hb r hs => codeAny_mono (F.go A outer s H args us vs Q _ hg hr e0 hb r hs) fun r s' hq => ?_⟩
  cases r with
  | error e =>
    obtain ⟨_, _, _, _, _, _, _, _, _, _, _, _, z⟩ := hq
    exact z.elim
  | ok fl => cases fl <;> exact hq
theorem Fq.fnok (F : Fq false P w K mg base CX0 k f fd ps sp) : FnOk P w K mg base CX0 k f fd ps sp := ⟨F.len, fun A outer s H args us vs Q E hr => F.go A outer s H args us vs Q E gd_false hr⟩
theorem Fo.cx0 (F : Fo g P w K mg base (L2.CX P w) k d ps sp) : Fo g P w K mg base CX0 k d ps (noE sp) := by
  obtain ⟨fd, F1, FD⟩ := F
  exact ⟨fd, F1.cx0, FD⟩
theorem Fo.imp (F : Fo g P w K mg base CX0 k d ps sp) (h : ∀ vs H Q E, sp' vs H Q E → sp vs H Q E) : Fo g P w K mg base CX0 k d ps sp' := by
  obtain ⟨fd, F1, FD⟩ := F
  exact ⟨fd, ⟨fun vs H Q E q => F1.len vs H Q E (h _ _ _ _ q), fun A outer s H args us vs Q E hg hr e0 hb r hs => F1.go A outer s H args us vs Q E hg hr e0 hb r (h _ _ _ _ hs)⟩, FD⟩
end
/-! ### drawing -/
theorem Ext.dr {a : Addr} {G H H' : Hp} (s : Ex G H) (g : G a = none) (d : Dr a H H') : Ext (some a) G H G H' where
  gg := Same.refl _
  sub := fun b o e => d.fx b o (fun z => by rw [z, g] at e; cases e) (s _ _ e)
  kp := fun b o e n => d.fx b o (fun z => n (z ▸ rfl)) e
  nf := fun _ _ z => z
  rg := fun b e => by cases e; exact d.rg
def sDraw : DSp := fun ds A _ => ∃ m : Int, ds = [.rng, .int m] ∧ 0 < m ∧ m ≤ 100000 ∧ ∀ k : Nat, (k : Int) < m → A (.int k)
theorem sp_draw {K : PySem.W.Frag} : ∀ vs H Q E, spD K 2 sDraw vs H Q E → spDraw vs H Q E := fun vs H Q E h => by
  obtain ⟨r, G, ds, A, B, s, g, rp, hn, ⟨m, rfl, m0, m1, hk⟩, h1, h2⟩ := h
  obtain ⟨v, u, rfl, rv, ru⟩ := repL2 rp
  cases ru
  cases rv with
  | rng e =>
    subst e
    obtain ⟨gr, gn⟩ := g _ rfl
    refine ⟨_, m, rfl, gr, m0, m1, fun k H' k0 k1 d => ?_⟩
    obtain ⟨k, rfl⟩ := Int.eq_ofNat_of_zero_le k0
    exact h1 _ (hk k k1) _ _ _ (Ext.dr s gn d) (.int _)
/-- what is drawn of a list, a tuple or a text -/
def sChoice : DSp := fun ds A _ => (∃ l, ds = [.rng, .lst l] ∧ l ≠ [] ∧ l.length ≤ 100000 ∧ ∀ x ∈ l, A x) ∨ (∃ l, ds = [.rng, .tup l] ∧ l ≠ [] ∧ l.length ≤ 100000 ∧ ∀ x ∈ l, A x) ∨
  ∃ z, ds = [.rng, .str z] ∧ cs z ≠ [] ∧ (cs z).length ≤ 100000 ∧ ∀ c ∈ cs z, A (.str ⟨#[c]⟩)
/-- the law's own run of one cell -/
def spRight : Sp := fun vs H Q _ => ∃ r : Addr, vs = [.ref r] ∧ Rng r H ∧ ∀ H', Dr r H H' → Q (.bl true) H'
def sRight : DSp := fun ds A _ => ds = [.rng] ∧ A (.bl true)
theorem sp_right {K : PySem.W.Frag} : ∀ vs H Q E, spRight vs H Q E → noE (spD K 1 sRight) vs H Q E := fun vs H Q E h => by
  obtain ⟨r, rfl, hR, h⟩ := h
  have sub : Ex (fun b => if b = r then none else H b) H := fun b o e => by
    have e : (if b = r then none else H b) = some o := e
    split at e
    · cases e
    · exact e
  refine ⟨some r, fun b => if b = r then none else H b, [.rng], fun d => d = .bl true, fun _ => False, sub, fun a e => ?_, .cons (.rng rfl) .nil, rfl, ⟨rfl, rfl⟩, fun d e v G' H' x rv => ?_, fun _ z => z.elim⟩
  · cases e
    exact ⟨hR, if_pos rfl⟩
  · subst e
    cases rv
    exact h H' ⟨fun b o n e => x.kp b o e (fun z => n (Option.some.inj z).symm), x.rg r rfl⟩
/-! ### fields -/
def putD (f : Str) (v : D) : List (Str × D) → List (Str × D)
  | [] => [(f, v)]
  | (g, x) :: r => if g = f then (g, v) :: r else (g, x) :: putD f v r
theorem RepF.put {K : PySem.W.Frag} {r : Option Addr} {G : Hp} {f : Str} {v : V} {d : D} (h : Rep K r G v d) : ∀ {fs : List (Str × V)} {ds : List (Str × D)}, RepF K r G fs ds → RepF K r G (putF f v fs) (putD f d ds)
  | _, _, .nil => .cons h .nil
  | (k, x) :: _, _ :: _, .cons a b => by
    unfold putF putD
    by_cases e : k = f
    · rw [if_pos e, if_pos e]; exact .cons h b
    · rw [if_neg e, if_neg e]; exact .cons a (RepF.put h b)
section
variable {X : Cx} {xk : Xk} {W : WX} {e : Expr} {st : Stmt}
/-- o.f -/
def dFld (cl : List Str) (f : Str) (w : DE) : DE := fun ρ A B => w ρ (fun ρ1 x => ∃ C fs d, x = .obj C fs ∧ C ∈ cl ∧ fs.lookup f = some d ∧ A ρ1 d) B
theorem pd_fld {cl : List Str} {f : Str} {w : DE} (hF : ∀ C ∈ cl, Cls X.K (He.ga X.K C) ∧ NoAttr X.K (He.ga X.K C) f) (h : PE X e (tFld X.K (rdE X.K xk W w) f)) : PD X xk W e (dFld cl f w) := PE.to h fun σ H Q q => by
  obtain ⟨c, ρ, G, A, B, s, q, kv, kx⟩ := q
  refine ⟨c, ρ, G, _, B, s, q, fun ρ1 x q1 v1 G1 H1 s1 e1 r1 => ?_, kx⟩
  obtain ⟨C, fs, d, rfl, hC, hl, q1⟩ := q1
  cases r1 with
  | obj h1 h2 =>
    obtain ⟨v, hv, rv⟩ := h2.lookup hl
    exact ⟨_, _, _, _, v, rfl, s1.sub _ _ h1, (hF C hC).1, (hF C hC).2, hv, kv _ _ q1 _ _ _ s1 e1 rv⟩
/-- self.f = e in __init__ -/
def dStF (cl : List Str) (f : Str) (i : Nat) (w : DE) : DS := fun A ρ => w ρ (fun ρ1 y => ∃ C fs, ρ1[i]? = some (.o (.i C fs)) ∧ C ∈ cl ∧ fs.length < 900 ∧ A.nx (ρ1.set i (.o (.i C (putD f y fs))))) A.xx
theorem psd_stF {cl : List Str} {f : Str} {i : Nat} {w : DE} (hF : ∀ C ∈ cl, Cls X.K (He.ga X.K C) ∧ NoAttr X.K (He.ga X.K C) f) (h : PS X st (sFld X.K (tVar i) (rdE X.K xk W w) f)) : PSD X xk W st (dStF cl f i w) := PS.to h fun E σ H q => by
  obtain ⟨c, ρ, G, A, s, q, k⟩ := q
  refine ⟨c, ρ, G, _, _, s, q, fun ρ1 y q1 v1 G1 H1 s1 e1 r1 => ?_, k.kx⟩
  obtain ⟨C, fs, hi, hC, hl, q1⟩ := q1
  obtain ⟨v, hv, a, o, rfl, h2, h3, _⟩ := s1.sl i _ hi
  cases h3 with
  | i h3 =>
    exact ⟨_, hv, a, _, _, _, rfl, h2, (hF C hC).1, (hF C hC).2, by rw [h3.length]; omega, k.nx _ q1 _ _ _ (s1.wr hi hv (.i (h3.put r1)) fun _ _ _ => ⟨_, _, rfl⟩) e1⟩
/-! ### making instances -/
abbrev SpecI := List D → (List (Str × D) → Prop) → (Xd → Prop) → Prop
structure ExtI (r : Option Addr) (a : Addr) (G H G' H' : Hp) : Prop where
  gg : Ex G G'
  sub : Ex G' H'
  kp : ∀ b o, H b = some o → r ≠ some b → b ≠ a → H' b = some o
  nf : ∀ b, b ≠ a → H b ≠ none → G b = none → G' b = none
  rg : ∀ a, r = some a → Rng a H'
def spI (K : PySem.W.Frag) (C : Str) (n : Nat) (spec : SpecI) : Sp := fun vs H Q E => ∃ r G a dx args ds A B, vs = .ref a :: args ∧ H a = some (.ins (He.ga K C) dx []) ∧ Ex G H ∧ Rg r G H ∧ G a = none ∧ r ≠ some a ∧ RepL K r G args ds ∧ ds.length = n ∧ spec ds A B ∧
  (∀ fs, A fs → ∀ G' H' fvs dx', ExtI r a G H G' H' → H' a = some (.ins (He.ga K C) dx' fvs) → RepF K r G' fvs fs → Q .non H') ∧ (∀ x, B x → ∀ G' H' cls dx, ExtI r a G H G' H' → RepX K r G' x cls dx → E cls dx H')
def rhoI (n : Nat) (C : Str) (ds : List D) : Rho := .o (.i C []) :: (ds.map Sl.d ++ List.replicate (n - (ds.length + 1)) .no)
def Dc.ofI (r : Option Addr) (a : Addr) (G H : Hp) : Dc := { r := r, F := fun b => if r = some b ∨ b = a then none else H b, G0 := G, me := some a }
theorem sr_startI {K : PySem.W.Frag} {r : Option Addr} {G H : Hp} {N : List Str} {a dx : Addr} {C : Str} {vs : List V} {ds : List D} (ha : H a = some (.ins (He.ga K C) dx [])) (sub : Ex G H) (g : Rg r G H) (ga : G a = none) (ra : r ≠ some a) (h : RepL K r G vs ds) :
    SR K none (Dc.ofI r a G H) (rhoI N.length C ds) (L2.start N (.ref a :: vs)) G H where
  len := by
    rw [start_eq, rhoI, List.map_cons, List.cons_append, List.length_cons, List.length_cons, List.length_append, List.length_append, List.length_map, List.length_map, List.length_replicate, List.length_replicate, List.length_cons, h.length]
  sub := sub
  frm := fun b o e => by
    have e : (if r = some b ∨ b = a then none else H b) = some o := e
    split at e
    · cases e
    · exact e
  g0 := Same.refl _
  nw := fun b _ e => e
  rg := fun x e => ⟨(g x e).1, (g x e).2, if_pos (.inl e)⟩
  sl := fun i x hx => by
    rw [start_eq, List.map_cons, List.cons_append]
    unfold rhoI at hx
    cases i with
    | zero =>
      cases hx
      exact ⟨some (.ref a), rfl, a, _, rfl, ha, .i .nil, ga, if_pos (.inr rfl), ra, fun _ _ _ => rfl⟩
    | succ i =>
      rw [List.getElem?_cons_succ] at hx ⊢
      rw [List.length_cons]
      rcases Nat.lt_or_ge i ds.length with hi | hi
      · rw [List.getElem?_append_left (by rw [List.length_map]; exact hi), List.getElem?_map, List.getElem?_eq_getElem hi] at hx
        cases hx
        obtain ⟨v, hv, rv⟩ := h.get (List.getElem?_eq_getElem hi)
        refine ⟨some v, ?_, v, rfl, rv⟩
        rw [List.getElem?_append_left (by rw [List.length_map, h.length]; exact hi), List.getElem?_map, hv]
        rfl
      · rw [List.getElem?_append_right (by rw [List.length_map]; exact hi), List.length_map, List.getElem?_replicate] at hx
        split at hx
        · rename_i h2
          cases hx
          refine ⟨none, ?_, trivial⟩
          rw [List.getElem?_append_right (by rw [List.length_map, h.length]; exact hi), List.length_map, h.length, List.getElem?_replicate, if_pos h2]
        · cases hx
  ap := fun i j l l' b ne h1 h2 _ _ => by
    unfold rhoI at h1 h2
    have no : ∀ (i : Nat) (l : Ow), (ds.map Sl.d ++ List.replicate (N.length - (ds.length + 1)) Sl.no)[i]? = some (Sl.o l) → False := fun i l h1 => by
      rcases Nat.lt_or_ge i ds.length with hi | hi
      · rw [List.getElem?_append_left (by rw [List.length_map]; exact hi), List.getElem?_map, List.getElem?_eq_getElem hi] at h1
        cases h1
      · rw [List.getElem?_append_right (by rw [List.length_map]; exact hi), List.length_map, List.getElem?_replicate] at h1
        split at h1 <;> cases h1
    cases i with
    | succ i => exact no i l h1
    | zero =>
      cases j with
      | zero => exact ne rfl
      | succ j => exact no j l' h2
theorem sr_endI {K : PySem.W.Frag} {r : Option Addr} {a : Addr} {G H G' H' : Hp} {ρ : Rho} {σ : L2.St} (s : SR K xk (Dc.ofI r a G H) ρ σ G' H') : ExtI r a G H G' H' where
  gg := s.g0
  sub := s.sub
  kp := fun b o e n n2 => s.frm b o (show (if r = some b ∨ b = a then none else H b) = some o by rw [if_neg (by rintro (z | z); exact n z; exact n2 z)]; exact e)
  nf := fun b n2 h1 h2 => by
    by_cases n : r = some b
    · exact (s.rg b n).2.1
    · exact s.nw b (show (if r = some b ∨ b = a then none else H b) ≠ none by rw [if_neg (by rintro (z | z); exact n z; exact n2 z)]; exact h1) h2
  rg := fun a e => (s.rg a e).1
/-- what stands behind __init__ -/
def endsI (C : Str) (A : List (Str × D) → Prop) (B : Xd → Prop) : DEnds := ⟨fun ρ => ∃ fs, ρ[0]? = some (.o (.i C fs)) ∧ A fs, fun _ _ => False, fun _ => False, fun _ => False, fun _ => B⟩
theorem body_I {P : Program} {w : World} {K : PySem.W.Frag} {C : Str} {n : Nat} {N : List Str} {spec : SpecI} {wb : DS} {vs : List V} {H : Hp} {Q : VK} {E : XK} (hpure : ∀ ds A B, ds.length = n → spec ds A B → wb (endsI C A B) (rhoI N.length C ds)) (h : spI K C n spec vs H Q E) :
    rdS K none (fun cls dx _ H' => E cls dx H') wb { nx := fun _ H' => Q .non H', rt := Q } (L2.start N vs) H := by
  obtain ⟨r, G, a, dx, args, ds, A, B, rfl, ha, sub, g, ga, ra, hr, hn, hs, h1, h2⟩ := h
  refine ⟨Dc.ofI r a G H, rhoI N.length C ds, G, endsI C A B, sr_startI ha sub g ga ra hr, hpure ds A B hn hs, ?_⟩
  refine ⟨fun ρ' ⟨fs, h0, hA⟩ σ' G' H' s' _ => ?_, fun _ _ z => z.elim, fun _ z => z.elim, fun _ z => z.elim, fun ρ' x b σ' G' H' cls dx' s' _ r' => h2 x b G' H' cls dx' (sr_endI s') r'⟩
  obtain ⟨v, hv, a', o, rfl, q2, q3, q4, q5, q6, q7⟩ := s'.sl 0 _ h0
  have e : a' = a := by
    have := q7 C fs rfl
    exact (Option.some.inj this).symm
  subst e
  cases q3 with
  | i q3 => exact h1 fs hA G' H' _ _ (sr_endI s') q2 q3
theorem Fq.raw {P : Program} {w : World} {K : PySem.W.Frag} {mg : Str → Option Value} {base : Heap} {CX : CXT} {k n : Nat} {f : Addr} {fd : FuncData} {ps : List Str} {sp : Sp} (F : Fq false P w K mg base CX k f fd ps sp) (hb : Bw K fd ps n [] gPos) (hn : ps.length = n) : FnR P w K mg base CX k f sp := by
  intro A outer s H us vs Q E hr e0 r hs
  have KX : K.In s.heap := e0.mod.kin.keeps fun b o e => (e0.bs b o e).1
  obtain ⟨zs, hB, hV⟩ := hb s us [] KX (by rw [← r.length, F.len _ _ _ _ hs, hn]) rfl
  exact F.go A outer s H ⟨us, []⟩ zs vs Q E gd_false hr e0 hB (hV vs [] r .nil) hs
/-- __init__(self, a, ..) -/
theorem fnr_I {P : Program} {w : World} {K : PySem.W.Frag} {mg : Str → Option Value} {base : Heap} {k n m : Nat} {d : He.DefD} {N ps : List Str} {C : Str} {spec : SpecI} {fd : FuncData} {wb : DS}
    (F : FunD K d.name d.qual d.params d.body d.scope (d.dvs K) (d.kws K) (He.fAd K d.at_) fd) (S : FnScope N ps d.scope) (hm : N.length = m) (hn : ps.length = n + 1) (hb : Bw K fd ps (n + 1) [] gPos)
    (hbody : ∀ (cdv : Value) (A : Around) (outer : List Env) (s : Shared) (H : Hp) (E : XK), Room k (A.deeper (envOfC d.qual d.scope s.heap.objs.size (He.fAd K d.at_) cdv)) →
      PSDs (cxOf (L2.CX P w) P w K mg base N d.qual d.scope (He.fAd K d.at_) cdv A outer s H E) none (fun cls dx _ H' => E cls dx H') d.body wb)
    (hpure : ∀ ds A B, ds.length = n → spec ds A B → wb (endsI C A B) (rhoI m C ds)) : FnR P w K mg base (L2.CX P w) (k + 1) (He.fAd K d.at_) (spI K C n spec) := by
  subst hm
  refine Fq.raw (n := n + 1) (fd := fd) (ps := ps) (Fq.mk' F S (fun vs H Q E h => ?_) (fun cdv A outer s H vs Q E _ hr h => ⟨_, hbody cdv A outer s H E hr, body_I (P := P) (w := w) hpure h⟩)) hb hn
  obtain ⟨r, G, a, dx, args, ds, A, B, rfl, _, _, _, _, _, hr, hl, _⟩ := h
  rw [List.length_cons, hr.length, hl, hn]
/-- __init__(self, *rest) -/
def spIS (K : PySem.W.Frag) (C : Str) (spec : SpecI) : Sp := fun vs H Q E => ∃ (a : V) (rest : List V), vs = a :: rest ∧ rest.length ≤ sizeLine ∧ ∀ p, H p = none → spI K C 1 spec [a, .ref p] (upd H p (.tup rest)) Q E
theorem fnr_IS {P : Program} {w : World} {K : PySem.W.Frag} {mg : Str → Option Value} {base : Heap} {k m : Nat} {d : He.DefD} {N : List Str} {p1 pv C : Str} {spec : SpecI} {fd : FuncData} {wb : DS}
    (F : FunD K d.name d.qual d.params d.body d.scope [] (d.kws K) (He.fAd K d.at_) fd) (S : FnScope N [p1, pv] d.scope) (hm : N.length = m)
    (h0 : ∀ (kV doc pm : Value) (an : Option Addr) (cdv ct : Value) (a : Value), bindArgs (PySem.W.fnOf d.name d.qual d.params d.body d.scope .none kV doc pm an cdv ct) ⟨[a], []⟩ = (newTuple [] >>= fun t => pure [(p1, a), (pv, t)]))
    (h1 : ∀ (kV doc pm : Value) (an : Option Addr) (cdv ct : Value) (a r : Value) (rs : List Value), bindArgs (PySem.W.fnOf d.name d.qual d.params d.body d.scope .none kV doc pm an cdv ct) ⟨a :: r :: rs, []⟩ = (newTuple (r :: rs) >>= fun t => pure [(p1, a), (pv, t)]))
    (hbody : ∀ (cdv : Value) (A : Around) (outer : List Env) (s : Shared) (H : Hp) (E : XK), Room k (A.deeper (envOfC d.qual d.scope s.heap.objs.size (He.fAd K d.at_) cdv)) →
      PSDs (cxOf (L2.CX P w) P w K mg base N d.qual d.scope (He.fAd K d.at_) cdv A outer s H E) none (fun cls dx _ H' => E cls dx H') d.body wb)
    (hpure : ∀ ds A B, ds.length = 1 → spec ds A B → wb (endsI C A B) (rhoI m C ds)) : FnR P w K mg base (L2.CX P w) (k + 1) (He.fAd K d.at_) (spIS K C spec) := by
  subst hm
  exact fn_star1 F S StX.cxUp h0 h1 fun cdv A outer s H vs Q E hr h => ⟨_, hbody cdv A outer s H E hr, body_I (P := P) (w := w) hpure h⟩
end
/-! ### calls of classes -/
section
variable {K : PySem.W.Frag} {xk : Xk} {W : WX} {c : Dc} {ρ : Rho} {σ : L2.St} {G H : Hp} {C : Str}
theorem made_ext {x dx : Addr} {G' H' : Hp} {o : HO} (s : Ex G H) (g : Rg c.r G H) (nx : H x = none) (nd : H dx = none) (e : ExtI c.r x G (upd (upd H dx (.own x)) x o) G' H') : Ext c.r G H G' H' where
  gg := e.gg
  sub := e.sub
  kp := fun b u q n => e.kp b u (by rw [upd_ne (ne_of_none q nx), upd_ne (ne_of_none q nd)]; exact q) n (ne_of_none q nx)
  nf := fun b n1 n2 => e.nf b (fun z => n1 (z ▸ nx)) (by
    rw [upd_ne (fun z : b = x => n1 (z ▸ nx)), upd_ne (fun z : b = dx => n1 (z ▸ nd))]; exact n1) n2
  rg := e.rg
theorem ext_up {r : Option Addr} {x : Addr} {G' H' : Hp} {o : HO} (e : Ext r G H G' H') (nx : H x = none) (h : H' x = some o) : Ext r G H (upd G' x o) H' ∧ Ex G' (upd G' x o) := by
  have up : Ex G' (upd G' x o) := fun b u q => by
    by_cases z : b = x
    · subst z
      have := e.sub _ _ q
      rw [h] at this
      rw [upd_same, this]
    · rw [upd_ne z]; exact q
  refine ⟨⟨e.gg.trans up, fun b u q => ?_, e.kp, fun b n1 n2 => ?_, e.rg⟩, up⟩
  · by_cases z : b = x
    · subst z
      rw [upd_same] at q
      cases q
      exact h
    · rw [upd_ne z] at q; exact e.sub _ _ q
  · rw [upd_ne (fun z : b = x => n1 (z ▸ nx))]
    exact e.nf b n1 n2
theorem make_core {n : Nat} {spec : SpecI} {vs : List V} {xs : List D} {A : DQ} {B : DB} {Q : VK} (s : SR K xk c ρ σ G H) (rv : RepL K c.r G vs xs) (hn : xs.length = n) (hs : spec xs (fun fs => A ρ (.obj C fs)) (B ρ)) (kv : KVl K xk c G σ A Q) (kx : KXl K xk c G σ W B)
    {x dx : Addr} (nx : H x = none) (nd : H dx = none) (ne : dx ≠ x) : spI K C n spec (.ref x :: vs) (upd (upd H dx (.own x)) x (.ins (He.ga K C) dx [])) (fun v H2 => v = .non ∧ Q (.ref x) H2) (fun cls d H' => W cls d σ H') := by
  have sub : Ex G (upd (upd H dx (.own x)) x (.ins (He.ga K C) dx [])) := fun b o e => by
    have q := s.sub _ _ e
    rw [upd_ne (ne_of_none q nx), upd_ne (ne_of_none q nd)]; exact q
  refine ⟨c.r, G, x, dx, vs, xs, _, _, rfl, upd_same, sub, fun a e => ?_, s.sub.free nx, s.Rg.ne nx, rv, hn, hs, fun fs hA G' H' fvs dx' e h' rf => ⟨rfl, ?_⟩, fun y hy G' H' cls d e r => ?_⟩
  · obtain ⟨⟨u, w, h1, h2⟩, h3, _⟩ := s.rg a e
    exact ⟨⟨u, w, by rw [upd_ne (ne_of_none h1 nx), upd_ne (ne_of_none h1 nd)]; exact h1, h2⟩, h3⟩
  · obtain ⟨e2, up⟩ := ext_up (made_ext s.sub s.Rg nx nd e) nx h'
    exact kv _ _ hA _ _ _ (s.ext e2) e2.gg (.obj upd_same (rf.ex up))
  · have e2 := made_ext s.sub s.Rg nx nd e
    exact kx _ _ hy _ _ _ _ (s.ext e2) e2.gg r
theorem makeS_core {spec : SpecI} {vs : List V} {xs : List D} {A : DQ} {B : DB} {Q : VK} (s : SR K xk c ρ σ G H) (rv : RepL K c.r G vs xs) (hn : xs.length ≤ 1000000) (hs : spec [.tup xs] (fun fs => A ρ (.obj C fs)) (B ρ)) (kv : KVl K xk c G σ A Q) (kx : KXl K xk c G σ W B)
    {x dx : Addr} (nx : H x = none) (nd : H dx = none) (ne : dx ≠ x) : spIS K C spec (.ref x :: vs) (upd (upd H dx (.own x)) x (.ins (He.ga K C) dx [])) (fun v H2 => v = .non ∧ Q (.ref x) H2) (fun cls d H' => W cls d σ H') := by
  refine ⟨_, vs, rfl, by rw [rv.length]; exact big_le hn, fun p np => ?_⟩
  obtain ⟨npx, np1⟩ := upd_none np
  obtain ⟨npd, np2⟩ := upd_none np1
  have E := Ext.new (o := .tup vs) s.sub s.Rg np2
  have s2 := s.ext E
  have h := make_core (C := C) (n := 1) (spec := spec) (vs := [.ref p]) (xs := [.tup xs]) s2 (.cons (.tup (SqT.of upd_same) (rv.ex E.gg)) .nil) rfl hs (kv.ex E.gg) (kx.ex E.gg) (x := x) (dx := dx) (by rw [upd_ne npx.symm]; exact nx) (by rw [upd_ne npd.symm]; exact nd) ne
  have e : upd (upd (upd H p (.tup vs)) dx (.own x)) x (.ins (He.ga K C) dx []) = upd (upd (upd H dx (.own x)) x (.ins (He.ga K C) dx [])) p (.tup vs) := by
    funext b
    unfold upd
    by_cases z1 : b = x
    · subst z1
      rw [if_pos rfl, if_neg npx.symm, if_pos rfl]
    · by_cases z2 : b = dx
      · subst z2
        rw [if_neg z1, if_pos rfl, if_neg npd.symm, if_neg z1, if_pos rfl]
      · rw [if_neg z1, if_neg z2, if_neg z1, if_neg z2]
  rw [e] at h
  exact h
end
section
variable {X : Cx} {xk : Xk} {W : WX} {e : Expr} {C : Str} {n : Nat} {spec : SpecI}
/-- C(a, ..) -/
def dMake (C : Str) (n : Nat) (spec : SpecI) (w : DA) : DE := fun ρ A B => w ρ (fun ρ1 xs => xs.length = n ∧ spec xs (fun fs => A ρ1 (.obj C fs)) (B ρ1)) B
theorem pd_make {w : DA} (h : PE X e (tMakeX (He.ga X.K C) (spI X.K C n spec) W (rdA X.K xk W w))) : PD X xk W e (dMake C n spec w) := PE.to h fun σ H Q q => by
  obtain ⟨c, ρ, G, A, B, s, q, kv, kx⟩ := q
  refine ⟨c, ρ, G, _, B, s, q, fun ρ1 xs q1 v1 G1 H1 s1 e1 r1 => ?_, kx⟩
  exact fun x dx nx nd ne => make_core s1 r1 q1.1 q1.2 (kv.ex e1) (kx.ex e1) nx nd ne
/-- C(a, ..) by __init__(self, *rest) -/
def dMakeP (C : Str) (spec : SpecI) (w : DA) : DE := fun ρ A B => w ρ (fun ρ1 xs => xs.length ≤ 1000000 ∧ spec [.tup xs] (fun fs => A ρ1 (.obj C fs)) (B ρ1)) B
theorem pd_makeP {w : DA} (h : PE X e (tMakeX (He.ga X.K C) (spIS X.K C spec) W (rdA X.K xk W w))) : PD X xk W e (dMakeP C spec w) := PE.to h fun σ H Q q => by
  obtain ⟨c, ρ, G, A, B, s, q, kv, kx⟩ := q
  refine ⟨c, ρ, G, _, B, s, q, fun ρ1 xs q1 v1 G1 H1 s1 e1 r1 => ?_, kx⟩
  exact fun x dx nx nd ne => makeS_core s1 r1 q1.1 q1.2 (kv.ex e1) (kx.ex e1) nx nd ne
theorem pd_makeP0 (h : PE X e (tMakeX (He.ga X.K C) (spIS X.K C spec) W tNil)) : PD X xk W e (dMakeP C spec dNil) := PE.to h fun σ H Q q => by
  obtain ⟨c, ρ, G, A, B, s, q, kv, kx⟩ := q
  exact fun x dx nx nd ne => makeS_core s .nil q.1 q.2 kv kx nx nd ne
/-- C(*e) -/
def dMakeS (C : Str) (spec : SpecI) (w : DE) : DE := fun ρ A B => w ρ (fun ρ1 y => ∃ xs, (y = .tup xs ∨ y = .lst xs) ∧ xs.length ≤ 1000000 ∧ spec [.tup xs] (fun fs => A ρ1 (.obj C fs)) (B ρ1)) B
theorem rd_makeS {w : DE} : ∀ σ H Q, rdE X.K xk W (dMakeS C spec w) σ H Q → tMakeSX X.K (He.ga X.K C) (spIS X.K C spec) W (rdE X.K xk W w) σ H Q := fun σ H Q q => by
  obtain ⟨c, ρ, G, A, B, s, q, kv, kx⟩ := q
  refine ⟨c, ρ, G, _, B, s, q, fun ρ1 y q1 v1 G1 H1 s1 e1 r1 => ?_, kx⟩
  obtain ⟨xs, hy, hl, hs⟩ := q1
  rcases hy with rfl | rfl
  · cases r1 with
    | tup h1 h2 => exact ⟨_, _, rfl, .inl (ex_seqT s1.sub h1), fun x dx nx nd ne => makeS_core s1 h2 hl hs (kv.ex e1) (kx.ex e1) nx nd ne⟩
  · cases r1 with
    | lst h1 h2 => exact ⟨_, _, rfl, .inr (SqL.of (s1.sub _ _ h1)), fun x dx nx nd ne => makeS_core s1 h2 hl hs (kv.ex e1) (kx.ex e1) nx nd ne⟩
theorem pd_makeS {w : DE} (h : PE X e (tMakeSX X.K (He.ga X.K C) (spIS X.K C spec) W (rdE X.K xk W w))) : PD X xk W e (dMakeS C spec w) := PE.to h rd_makeS
/-- cls(*e), cls a name that holds the class -/
def dMakeV (C : Str) (spec : SpecI) (wc w : DE) : DE := fun ρ A B => wc ρ (fun ρ1 x => x = .cls C ∧ dMakeS C spec w ρ1 A B) B
theorem pd_makeV {wc w : DE} (h : PE X e (fun σ H Q => rdE X.K xk W wc σ H fun v H0 => v = .ref (He.ga X.K C) ∧ tMakeSX X.K (He.ga X.K C) (spIS X.K C spec) W (rdE X.K xk W w) σ H0 Q)) : PD X xk W e (dMakeV C spec wc w) := PE.to h fun σ H Q q => by
  obtain ⟨c, ρ, G, A, B, s, q, kv, kx⟩ := q
  refine ⟨c, ρ, G, _, B, s, q, fun ρ1 y q1 v1 G1 H1 s1 e1 r1 => ?_, kx⟩
  obtain ⟨rfl, q1⟩ := q1
  cases r1
  exact ⟨rfl, rd_makeS σ H1 Q ⟨c, ρ1, G1, A, B, s1, q1, kv.ex e1, kx.ex e1⟩⟩
/-! ### properties, classmethods, methods, constants of classes -/
def dProp (C : Str) (spec : DSp) (w : DE) : DE := fun ρ A B => w ρ (fun ρ1 x => ∃ fs, x = .obj C fs ∧ spec [x] (A ρ1) (fun _ => False)) B
theorem pd_prop {spec : DSp} {w : DE} {E : XK} (h : PE X e (tProp (He.ga X.K C) (noE (spD X.K 1 spec)) [] E (rdE X.K xk W w))) : PD X xk W e (dProp C spec w) := PE.to h fun σ H Q q => by
  obtain ⟨c, ρ, G, A, B, s, q, kv, kx⟩ := q
  refine ⟨c, ρ, G, _, B, s, q, fun ρ1 y q1 v1 G1 H1 s1 e1 r1 => ?_, kx⟩
  obtain ⟨fs, rfl, q1⟩ := q1
  have r1' := r1
  cases r1 with
  | obj h1 h2 => exact ⟨_, _, _, rfl, s1.sub _ _ h1, c.r, G1, [.obj C fs], _, _, s1.sub, s1.Rg, .cons r1' .nil, rfl, q1, fun d hd v G' H' x r => kv _ _ hd _ _ _ (s1.ext x) (e1.trans x.gg) r, fun _ z => z.elim⟩
/-- e.m(a, ..), e a class, m a classmethod -/
def dCMeth (C : Str) (n : Nat) (spec : DSp) (w : DE) (ws : DA) : DE := fun ρ A B => w ρ (fun ρ1 x => x = .cls C ∧ ws ρ1 (fun ρ2 xs => xs.length = n ∧ spec (.cls C :: xs) (A ρ2) (B ρ2)) B) B
theorem pd_cmeth {spec : DSp} {w : DE} {ws : DA} (h : PE X e (tCMethX (He.ga X.K C) n (spD X.K (n + 1) spec) W (rdE X.K xk W w) (rdA X.K xk W ws))) : PD X xk W e (dCMeth C n spec w ws) := PE.to h fun σ H Q q => by
  obtain ⟨c, ρ, G, A, B, s, q, kv, kx⟩ := q
  refine ⟨c, ρ, G, _, B, s, q, fun ρ1 y q1 v1 G1 H1 s1 e1 r1 => ?_, kx⟩
  obtain ⟨rfl, q1⟩ := q1
  cases r1
  refine ⟨rfl, c, ρ1, G1, _, B, s1, q1, fun ρ2 xs q2 v2 G2 H2 s2 e2 r2 => ?_, kx.ex e1⟩
  exact ⟨by rw [r2.length]; exact q2.1, c.r, G2, _, _, _, s2.sub, s2.Rg, .cons (.cls C) r2, by rw [List.length_cons, q2.1], q2.2, fun d hd v G' H' x r => kv _ _ hd _ _ _ (s2.ext x) ((e1.trans e2).trans x.gg) r, fun y hy G' H' cls dx x r => kx _ _ hy _ _ _ _ (s2.ext x) ((e1.trans e2).trans x.gg) r⟩
/-- C.f, a constant -/
def dCVal (C : Str) (d : D) (w : DE) : DE := fun ρ A B => w ρ (fun ρ1 x => x = .cls C ∧ A ρ1 d) B
theorem pd_cval {f : Str} {d : D} {w : DE} {v : V} {u mc : Value} (rd : ClX.CRead X.K (He.ga X.K C) mc) (cv : ClX.CVal X.K (He.ga X.K C) mc f v u) (rp : ∀ r G, Rep X.K r G v d) (h : PE X e (ClX.tCVal X.K (rdE X.K xk W w) f)) : PD X xk W e (dCVal C d w) := PE.to h fun σ H Q q => by
  obtain ⟨c, ρ, G, A, B, s, q, kv, kx⟩ := q
  refine ⟨c, ρ, G, _, B, s, q, fun ρ1 y q1 v1 G1 H1 s1 e1 r1 => ?_, kx⟩
  obtain ⟨rfl, q1⟩ := q1
  cases r1
  exact ⟨_, _, _, _, rfl, rd, cv, kv _ _ q1 _ _ _ s1 e1 (rp _ _)⟩
end
/-! ### errors -/
/-- the attributes of an error -/
def xfD (nm : Str) (fl : List Str) (xs : List D) : List (Str × D) := ("told_parts", .tup (.str nm :: xs)) :: (fl.zip xs).reverse
theorem repF_append {K : PySem.W.Frag} {r : Option Addr} {G : Hp} : ∀ {fs gs : List (Str × V)} {ds es : List (Str × D)}, RepF K r G fs ds → RepF K r G gs es → RepF K r G (fs ++ gs) (ds ++ es)
  | _, _, _, _, .nil, h => h
  | _, _, _, _, .cons a b, h => .cons a (repF_append b h)
theorem repF_zip {K : PySem.W.Frag} {r : Option Addr} {G : Hp} : ∀ {fl : List Str} {vs : List V} {xs : List D}, RepL K r G vs xs → RepF K r G (fl.zip vs).reverse (fl.zip xs).reverse
  | [], _, _, _ => .nil
  | f :: fl, _, _, .nil => .nil
  | f :: fl, _, _, .cons a b => by
    rw [List.zip_cons_cons, List.zip_cons_cons, List.reverse_cons, List.reverse_cons]
    exact repF_append (repF_zip b) (.cons a .nil)
section
variable {X : Cx} {xk : Xk} {W : WX} {st : Stmt}
def dRaise (nm : Str) (fl : List Str) (w : DA) : DS := fun A ρ => w ρ (fun ρ1 xs => xs.length = fl.length ∧ A.xx ρ1 (nm, xfD nm fl xs)) A.xx
theorem psd_raise {nm : Str} {fl : List Str} {w : DA} (h : PS X st (fun _ σ H => tMkX (He.ga X.K nm) nm fl (rdA X.K xk W w) σ H fun cls d H' => W cls d σ H')) : PSD X xk W st (dRaise nm fl w) := PS.to h fun E σ H q => by
  obtain ⟨c, ρ, G, A, s, q, k⟩ := q
  refine ⟨c, ρ, G, _, _, s, q, fun ρ1 xs q1 v1 G1 H1 s1 e1 r1 => ⟨by rw [r1.length]; exact q1.1, fun d t H' nd nt ex hd ht => ?_⟩, k.kx⟩
  have ne : d ≠ t := fun z => by rw [z, ht] at hd; cases hd
  have gd : G1 d = none := s1.sub.free nd
  have gt : G1 t = none := s1.sub.free nt
  have eG : Ex G1 (upd (upd G1 t (.tup (.str nm :: v1))) d (.xd (xFs fl v1 t))) := fun b o q => by
    rw [upd_ne (ne_of_none q gd), upd_ne (ne_of_none q gt)]; exact q
  have E : Ext c.r G1 H1 (upd (upd G1 t (.tup (.str nm :: v1))) d (.xd (xFs fl v1 t))) H' := ⟨eG, fun b o q => by
      by_cases z : b = d
      · subst z; rw [upd_same] at q; cases q; exact hd
      · rw [upd_ne z] at q
        by_cases z2 : b = t
        · subst z2; rw [upd_same] at q; cases q; exact ht
        · rw [upd_ne z2] at q; exact ex _ _ (s1.sub _ _ q), fun b o q _ => ex _ _ q, fun b n1 n2 => by
      rw [upd_ne (fun z : b = d => n1 (z ▸ nd)), upd_ne (fun z : b = t => n1 (z ▸ nt))]; exact n2, fun a q => (s1.rg a q).1.ex ex⟩
  have rt : Rep X.K c.r (upd (upd G1 t (.tup (.str nm :: v1))) d (.xd (xFs fl v1 t))) (.ref t) (.tup (.str nm :: xs)) := .tup (SqT.of (by rw [upd_ne ne.symm, upd_same])) (.cons (.str nm) (r1.ex eG))
  exact k.xx _ _ q1.2 _ _ _ _ _ (s1.ext E) (e1.trans E.gg) ⟨d, _, rfl, rfl, upd_same, .cons rt (repF_zip (r1.ex eG))⟩
end
end Ab

set_option Elab.async false
set_option linter.all false
set_option maxRecDepth 100000
set_option maxHeartbeats 4000000
/-! DxI: try, the caught error, special methods. -/
namespace Ab
open PySem PySem.Spec PyProof.Rows L2
/-! ### what the head tells of errors -/
def exFB (K : PySem.W.Frag) (xl cl : List Str) (bl : List String) (sub : Str → Str → Bool) (subB : Str → String → Bool) (flds : List (Str × Str)) : Bool := xl.all (fun n => excB K (He.ga K n) && (cl.all (fun C => decide (PySem.W.exmOne K (.ref (He.ga K n)) (.ref (He.ga K C)) = some (sub n C)) && decide (PySem.W.kitOne K (.ref (He.ga K n)) (.ref (He.ga K C)) = some (sub n C))) &&
  bl.all fun b => decide (PySem.W.kitOne K (.ref (He.ga K n)) (.type b) = some (subB n b)))) && flds.all fun p => decide (PySem.W.findIn K (.ref (He.ga K p.1)) p.2 = some none)
structure ExF (K : PySem.W.Frag) (xl cl : List Str) (bl : List String) (sub : Str → Str → Bool) (subB : Str → String → Bool) (flds : List (Str × Str)) : Prop where
  b : exFB K xl cl bl sub subB flds = true
section
variable {K : PySem.W.Frag} {xl cl : List Str} {bl : List String} {sub : Str → Str → Bool} {subB : Str → String → Bool} {flds : List (Str × Str)}
theorem ExF.exc (F : ExF K xl cl bl sub subB flds) {n : Str} (h : n ∈ xl) : ExcC K (He.ga K n) ∧ XfC K (He.ga K n) := excB_ok (He.ba (List.all_eq_true.mp (He.ba F.b).1 n h)).1
theorem ExF.cc (F : ExF K xl cl bl sub subB flds) {n C : Str} (h : n ∈ xl) (h' : C ∈ cl) : PySem.W.exmOne K (.ref (He.ga K n)) (.ref (He.ga K C)) = some (sub n C) ∧ PySem.W.kitOne K (.ref (He.ga K n)) (.ref (He.ga K C)) = some (sub n C) := by
  have := He.ba (List.all_eq_true.mp (He.ba (He.ba (List.all_eq_true.mp (He.ba F.b).1 n h)).2).1 C h')
  exact ⟨of_decide_eq_true this.1, of_decide_eq_true this.2⟩
theorem ExF.cb (F : ExF K xl cl bl sub subB flds) {n : Str} {b : String} (h : n ∈ xl) (h' : b ∈ bl) : PySem.W.kitOne K (.ref (He.ga K n)) (.type b) = some (subB n b) :=
  of_decide_eq_true (List.all_eq_true.mp (He.ba (He.ba (List.all_eq_true.mp (He.ba F.b).1 n h)).2).2 b h')
theorem ExF.no (F : ExF K xl cl bl sub subB flds) {n f : Str} (h : (n, f) ∈ flds) : PySem.W.findIn K (.ref (He.ga K n)) f = some none := of_decide_eq_true (List.all_eq_true.mp (He.ba F.b).2 (n, f) h)
end
/-! ### try -/
def offX : Sl → Sl
  | .x _ => .no
  | s => s
def endsX (i : Nat) (A : DEnds) : DEnds := ⟨fun ρ => A.nx ((ρ.set i .no).map offX), fun ρ d => A.rt (ρ.map offX) d, fun ρ => A.bk ((ρ.set i .no).map offX), fun ρ => A.ct ((ρ.set i .no).map offX), noX⟩
def dHnd (i : Nat) (xl : List Str) (sub : Str → Str → Bool) : List (Str × DS) → DEnds → DB
  | [], A => A.xx
  | (C, wh) :: hs, A => fun ρ x => x.1 ∈ xl ∧ if sub x.1 C = true then wh (endsX i A) (ρ.set i (.x x)) else dHnd i xl sub hs A ρ x
def dTry (i : Nat) (xl : List Str) (sub : Str → Str → Bool) (hs : List (Str × DS)) (wb : DS) : DS := fun A ρ => wb { A with xx := dHnd i xl sub hs A } ρ
section
variable {K : PySem.W.Frag} {c : Dc} {ρ : Rho} {σ : L2.St} {G H : Hp}
theorem SR.toX (s : SR K none c ρ σ G H) {i : Nat} {a : Addr} {cls : Value} {dx : Option Addr} {x : Xd} (h : RepX K c.r G x cls dx) : SR K (some (a, cls, dx)) c (ρ.set i (.x x)) (σ.set i (some (.ref a))) G H where
  len := by rw [List.length_set, List.length_set, s.len]
  sub := s.sub
  frm := s.frm
  g0 := s.g0
  nw := s.nw
  rg := s.rg
  sl := fun j y hy => by
    rcases set_get hy with ⟨rfl, rfl, hl⟩ | ⟨ne, hy⟩
    · refine ⟨some (.ref a), ?_, a, cls, dx, rfl, rfl, h⟩
      rw [List.getElem?_set_self (by rw [← s.len]; exact hl)]
    · obtain ⟨u, hu, k⟩ := s.sl j y hy
      refine ⟨u, by rw [List.getElem?_set_ne ne]; exact hu, ?_⟩
      cases y with
      | no => trivial
      | d y => exact k
      | o y => exact k
      | x y => obtain ⟨_, _, _, z, _⟩ := k; cases z
  ap := fun j k l l' b ne h1 h2 h3 h4 => by
    rcases set_get h1 with ⟨_, z, _⟩ | ⟨n1, h1⟩
    · cases z
    rcases set_get h2 with ⟨_, z, _⟩ | ⟨n2, h2⟩
    · cases z
    rw [List.getElem?_set_ne n1] at h3
    rw [List.getElem?_set_ne n2] at h4
    exact s.ap j k l l' b ne h1 h2 h3 h4
theorem SR.offX {xk : Xk} (s : SR K xk c ρ σ G H) : SR K none c (ρ.map Ab.offX) σ G H where
  len := by rw [List.length_map, s.len]
  sub := s.sub
  frm := s.frm
  g0 := s.g0
  nw := s.nw
  rg := s.rg
  sl := fun j y hy => by
    rw [List.getElem?_map] at hy
    cases e : ρ[j]? with
    | none => rw [e] at hy; cases hy
    | some z =>
      rw [e] at hy
      obtain ⟨u, hu, k⟩ := s.sl j z e
      have hy : Ab.offX z = y := Option.some.inj hy
      subst hy
      refine ⟨u, hu, ?_⟩
      cases z with
      | no => trivial
      | d y => exact k
      | o y => exact k
      | x y => trivial
  ap := fun j k l l' b ne h1 h2 h3 h4 => by
    have f : ∀ (j : Nat) (l : Ow), (ρ.map Ab.offX)[j]? = some (Sl.o l) → ρ[j]? = some (Sl.o l) := fun j l h => by
      rw [List.getElem?_map] at h
      cases e : ρ[j]? with
      | none => rw [e] at h; cases h
      | some z =>
        rw [e] at h
        have h : Ab.offX z = .o l := Option.some.inj h
        cases z with
        | o y => cases h; rfl
        | no => cases h
        | d y => cases h
        | x y => cases h
    exact s.ap j k l l' b ne (f j l h1) (f k l' h2) h3 h4
end
section
variable {X : Cx} {st : Stmt} {i : Nat} {xl cl : List Str} {bl : List String} {sub : Str → Str → Bool} {subB : Str → String → Bool} {flds : List (Str × Str)} {Wout : WX} {wb : DS}
/-- the suites' readings -/
def tHs (K : PySem.W.Frag) : List (Str × DS) → List (Value × (Addr → Value → Option Addr → TS))
  | [] => []
  | (C, wh) :: hs => (.ref (He.ga K C), fun a cls d => rdS K (some (a, cls, d)) W0 wh) :: tHs K hs
theorem hnd_ok (F : ExF X.K xl cl bl sub subB flds) {c : Dc} {G : Hp} {A : DEnds} {E : Ends} (k : EndsR X.K none c G Wout A E) : ∀ (hs : List (Str × DS)), (∀ p ∈ hs, p.1 ∈ cl) → ∀ ρ' x, dHnd i xl sub hs A ρ' x → ∀ σ' G' H' cls dx, SR X.K none c ρ' σ' G' H' → Ex G G' → RepX X.K c.r G' x cls dx → wAsL X.K i Wout E (tHs X.K hs) cls dx σ' H'
  | [], _, ρ', x, h, σ', G', H', cls, dx, s, e, r => k.xx _ _ h _ _ _ _ _ s e r
  | (C, wh) :: hs, hc, ρ', x, h, σ', G', H', cls, dx, s, e, r => by
    obtain ⟨hx, h⟩ := h
    have ec : cls = .ref (He.ga X.K x.1) := by obtain ⟨_, _, e, _⟩ := r; exact e
    refine ⟨sub x.1 C, by rw [ec]; exact (F.cc hx (hc _ List.mem_cons_self)).1, fun b a na => ?_, fun b => ?_⟩
    · rw [if_pos b] at h
      have k' := k.ex e
      refine ⟨c, _, G', _, s.toX r, h, ⟨fun ρ2 a2 σ2 G2 H2 s2 e2 => ?_, fun ρ2 d2 a2 σ2 v2 G2 H2 s2 e2 r2 => k'.rt _ _ a2 _ _ _ _ s2.offX e2 r2, fun ρ2 a2 σ2 G2 H2 s2 e2 => ?_, fun ρ2 a2 σ2 G2 H2 s2 e2 => ?_, fun _ _ z => z.elim⟩⟩
      · exact k'.nx _ a2 _ _ _ (s2.forget (i := i) (v := none)).offX e2
      · exact k'.bk _ a2 _ _ _ (s2.forget (i := i) (v := none)).offX e2
      · exact k'.ct _ a2 _ _ _ (s2.forget (i := i) (v := none)).offX e2
    · rw [b, if_neg (by decide)] at h
      exact hnd_ok F k hs (fun p hp => hc p (List.mem_cons_of_mem _ hp)) ρ' x h σ' G' H' cls dx s e r
theorem psd_try (hs : List (Str × DS)) (F : ExF X.K xl cl bl sub subB flds) (hc : ∀ p ∈ hs, p.1 ∈ cl) (h : PS X st (fun E σ H => rdS X.K none (wAsL X.K i Wout E (tHs X.K hs)) wb E σ H)) : PSD X none Wout st (dTry i xl sub hs wb) := PS.to h fun E σ H q => by
  obtain ⟨c, ρ, G, A, s, q, k⟩ := q
  exact ⟨c, ρ, G, _, s, q, ⟨k.nx, k.rt, k.bk, k.ct, fun ρ' x b σ' G' H' cls dx s' e' r' => hnd_ok F k hs hc ρ' x b σ' G' H' cls dx s' e' r'⟩⟩
end
section
variable {X : Cx} {n : Str} {i : Nat} {body : List Stmt} {h₀ : ExceptHandler} {hds : List ExceptHandler} {pos : Pos} {xl cl : List Str} {bl : List String} {sub : Str → Str → Bool} {subB : Str → String → Bool} {flds : List (Str × Str)} {Wout : WX} {wb : DS}
theorem psd_tryL (hs : List (Str × DS)) (F : ExF X.K xl cl bl sub subB flds) (hc : ∀ C ∈ hs.map (·.1), C ∈ cl) (h1 : X.stack = X.env :: X.outer) (hf : X.env.frame = some X.env.locals) (hN : X.N.Nodup) (hi : X.N[i]? = some n) (hln : X.env.kindOf n = some .local) (tk : Takes X Wout)
    (hb : ∀ (W : WX) (pn : List (Addr × Obj)) (xe : Value → Shared → Prop), Takes (X.tr pn xe) W → PassesOwn (model X.prog X.w) X.A X.env xe → PSDs (X.tr pn xe) none W body wb)
    (hh : HdsA X n (h₀ :: hds) (tHs X.K hs)) : PSD X none Wout (.Try body (h₀ :: hds) [] [] pos) (dTry i xl sub hs wb) :=
  psd_try hs F (fun p hp => hc _ (List.mem_map.mpr ⟨p, hp, rfl⟩)) (ps_try_asL (tb := fun W => rdS X.K none W wb) h1 hf hN hi hln tk hb hh)
end
/-! ### the caught error -/
section
variable {X : Cx} {a : Addr} {cls : Value} {d : Option Addr} {W : WX} {e : Expr} {xl cl : List Str} {bl : List String} {sub : Str → Str → Bool} {subB : Str → String → Bool} {flds : List (Str × Str)}
theorem SR.xat {K : PySem.W.Frag} {c : Dc} {ρ : Rho} {σ : L2.St} {G H : Hp} (s : SR K (some (a, cls, d)) c ρ σ G H) {i : Nat} {x : Xd} (h : ρ[i]? = some (.x x)) : σ[i]? = some (some (.ref a)) ∧ ∃ dd fs, cls = .ref (He.ga K x.1) ∧ d = some dd ∧ G dd = some (.xd fs) ∧ RepF K c.r G fs x.2 := by
  obtain ⟨v, hv, a', cls', d', e, rfl, dd, fs, h1, h2, h3, h4⟩ := s.sl i _ h
  cases e
  exact ⟨hv, dd, fs, h1, h2, h3, h4⟩
/-- e.f -/
def dXf (n f : Str) (i : Nat) : DE := fun ρ A _ => ∃ x v, ρ[i]? = some (.x x) ∧ x.1 = n ∧ x.2.lookup f = some v ∧ A ρ v
theorem pd_xf {n f : Str} {i : Nat} (h : PE X e (tXf a cls d (He.ga X.K n) f (tVar i))) : PD X (some (a, cls, d)) W e (dXf n f i) := PE.to h fun σ H Q q => by
  obtain ⟨c, ρ, G, A, B, s, ⟨x, v, h0, rfl, hl, q⟩, kv, kx⟩ := q
  obtain ⟨hv, dd, fs, h1, h2, h3, h4⟩ := s.xat h0
  obtain ⟨u, hu, ru⟩ := h4.lookup hl
  exact ⟨_, hv, rfl, h1, dd, fs, u, h2, s.sub _ _ h3, hu, kv _ _ q _ _ _ s (Same.refl _) ru⟩
/-- isinstance(e, C) -/
def dIsX (xl : List Str) (sub : Str → Str → Bool) (C : Str) (i : Nat) : DE := fun ρ A _ => ∃ x, ρ[i]? = some (.x x) ∧ x.1 ∈ xl ∧ A ρ (.bl (sub x.1 C))
theorem pd_isX (F : ExF X.K xl cl bl sub subB flds) {C : Str} {i : Nat} (hC : C ∈ cl) (h : PE X e (tCB (rIsX X.K a cls d) (tCons (tVar i) (tCons (tC (.ref (He.ga X.K C))) tNil)))) : PD X (some (a, cls, d)) W e (dIsX xl sub C i) := PE.to h fun σ H Q q => by
  obtain ⟨c, ρ, G, A, B, s, ⟨x, h0, hx, q⟩, kv, kx⟩ := q
  obtain ⟨hv, dd, fs, h1, h2, h3, h4⟩ := s.xat h0
  exact ⟨_, hv, _, dd, fs, _, _, _, h1, h2, s.sub _ _ h3, (F.exc hx).1, rfl, .own _, (F.cc hx hC).2, kv _ _ q _ _ _ s (Same.refl _) (.bl _)⟩
def dIsXB (xl : List Str) (subB : Str → String → Bool) (b : String) (i : Nat) : DE := fun ρ A _ => ∃ x, ρ[i]? = some (.x x) ∧ x.1 ∈ xl ∧ A ρ (.bl (subB x.1 b))
theorem pd_isXB (F : ExF X.K xl cl bl sub subB flds) {b : String} {i : Nat} (hb : b ∈ bl) (h : PE X e (tCB (rIsX X.K a cls d) (tCons (tVar i) (tCons (tC (.ty b)) tNil)))) : PD X (some (a, cls, d)) W e (dIsXB xl subB b i) := PE.to h fun σ H Q q => by
  obtain ⟨c, ρ, G, A, B, s, ⟨x, h0, hx, q⟩, kv, kx⟩ := q
  obtain ⟨hv, dd, fs, h1, h2, h3, h4⟩ := s.xat h0
  exact ⟨_, hv, _, dd, fs, _, _, _, h1, h2, s.sub _ _ h3, (F.exc hx).1, rfl, .ty _, F.cb hx hb, kv _ _ q _ _ _ s (Same.refl _) (.bl _)⟩
/-- isinstance(e, (C, ..)) -/
def tCls (K : PySem.W.Frag) : List Str → TA
  | [] => tNil
  | C :: cs => tCons (tC (.ref (He.ga K C))) (tCls K cs)
theorem tCls_ok {K : PySem.W.Frag} {σ : L2.St} {H : Hp} : ∀ {cs : List Str} {Q : List V → Hp → Prop}, Q (cs.map fun C => .ref (He.ga K C)) H → tCls K cs σ H Q
  | [], _, h => h
  | C :: cs, Q, h => tCls_ok (cs := cs) h
theorem kitAny_of (F : ExF X.K xl cl bl sub subB flds) {n : Str} (hn : n ∈ xl) : ∀ {cs : List Str}, (∀ C ∈ cs, C ∈ cl) → PySem.W.kitAny X.K (.ref (He.ga X.K n)) (cs.map fun C => .ref (He.ga X.K C)) = some (cs.any fun C => sub n C)
  | [], _ => rfl
  | C :: cs, h => by
    have ih := kitAny_of F hn (cs := cs) fun D hD => h D (List.mem_cons_of_mem _ hD)
    rw [List.map_cons, List.any_cons]
    unfold PySem.W.kitAny
    rw [(F.cc hn (h C List.mem_cons_self)).2]
    cases sub n C with
    | true => rfl
    | false => exact ih
theorem clsV_all {K : PySem.W.Frag} : ∀ (cs : List Str), Paired ClsV (cs.map fun C => V.ref (He.ga K C)) (cs.map fun C => Value.ref (He.ga K C))
  | [] => .nil
  | C :: cs => .cons (.own _) (clsV_all cs)
def dIsXT (xl : List Str) (sub : Str → Str → Bool) (cs : List Str) (i : Nat) : DE := fun ρ A _ => ∃ x, ρ[i]? = some (.x x) ∧ x.1 ∈ xl ∧ A ρ (.bl (cs.any fun C => sub x.1 C))
theorem pd_isXT (F : ExF X.K xl cl bl sub subB flds) (cs : List Str) {i : Nat} (hC : ∀ C ∈ cs, C ∈ cl) (hl : cs.length ≤ 100) (h : PE X e (tCB (rIsXT X.K a cls d) (tCons (tVar i) (tCons (tTup (tCls X.K cs)) tNil)))) : PD X (some (a, cls, d)) W e (dIsXT xl sub cs i) := PE.to h fun σ H Q q => by
  obtain ⟨c, ρ, G, A, B, s, ⟨x, h0, hx, q⟩, kv, kx⟩ := q
  obtain ⟨hv, dd, fs, h1, h2, h3, h4⟩ := s.xat h0
  refine ⟨_, hv, tCls_ok ⟨by rw [List.length_map]; exact big_le (by omega), fun p hp => ?_⟩⟩
  have E := Ext.newO (o := .tup (cs.map fun C => .ref (He.ga X.K C))) s.sub s.Rg hp
  exact ⟨_, dd, fs, p, _, _, _, h1, h2, E.sub _ _ h3, (F.exc hx).1, rfl, upd_same, clsV_all cs, kitAny_of F hx hC, kv _ _ q _ _ _ (s.ext E) (Same.refl _) (.bl _)⟩
end
/-! ### special methods -/
section
variable {g : Bool} {P : Program} {w : World} {K : PySem.W.Frag} {mg : Str → Option Value} {base : Heap} {k n : Nat} {d : He.DefD} {ps : List Str} {C name : Str} {sp : Sp}
theorem spc_mk (F : Fo g P w K mg base (L2.CX P w) k d ps sp) (hb : ∀ fd, FunD K d.name d.qual d.params d.body d.scope (d.dvs K) (d.kws K) (He.fAd K d.at_) fd → Bw K fd ps n [] gPos) (m1 : He.eqO (PySem.W.findIn K (.ref (He.ga K C)) name) (some (some (.ref (He.fAd K d.at_)))) = true) (m2 : PySem.W.isFn K (.ref (He.fAd K d.at_)) = true) :
    Spc g P w K mg base k (He.ga K C) name n (noE sp) := by
  obtain ⟨fd, F1, FD⟩ := F
  exact ⟨_, fd, ps, F1.cx0, hb fd FD, He.eqO_ok m1, m2⟩
end
section
variable {K : PySem.W.Frag} {C : Str} {spec : DSp}
def fnLenO (C : Str) (spec : DSp) : List D → (D → Prop) → Prop := fun ds A => ∃ fs, ds = [.obj C fs] ∧ spec ds (fun d => ∃ n : Int, d = .int n ∧ 0 ≤ n ∧ n < 2 ^ 63 ∧ A (.int n)) (fun _ => False)
theorem cd_lenO : CallD K (rLenO (He.ga K C) (noE (spD K 1 spec))) (fnLenO C spec) := fun r0 G H xs ds A Q s g rx h k => by
  obtain ⟨fs, rfl, h⟩ := h
  obtain ⟨v, rfl, rv⟩ := repL1 rx
  have rx' := rx
  cases rv with
  | obj h1 h2 =>
    refine ⟨_, _, _, rfl, s _ _ h1, r0, G, _, _, _, s, g, rx', rfl, h, fun d hd v G' H' x r => ?_, fun _ z => z.elim⟩
    obtain ⟨n, rfl, n0, n1, hA⟩ := hd
    cases r
    exact ⟨n, rfl, n0, n1, k _ hA _ _ _ x (.int _)⟩
def fnStrO (C : Str) (spec : DSp) : List D → (D → Prop) → Prop := fun ds A => ∃ fs, ds = [.obj C fs] ∧ spec ds (fun d => ∃ z, d = .str z ∧ A (.str z)) (fun _ => False)
theorem cd_strO : CallD K (rStrO (He.ga K C) (noE (spD K 1 spec))) (fnStrO C spec) := fun r0 G H xs ds A Q s g rx h k => by
  obtain ⟨fs, rfl, h⟩ := h
  obtain ⟨v, rfl, rv⟩ := repL1 rx
  have rx' := rx
  cases rv with
  | obj h1 h2 =>
    refine ⟨_, _, _, rfl, s _ _ h1, r0, G, _, _, _, s, g, rx', rfl, h, fun d hd v G' H' x r => ?_, fun _ z => z.elim⟩
    obtain ⟨n, rfl, hA⟩ := hd
    cases r
    exact ⟨n, rfl, k _ hA _ _ _ x (.str _)⟩
/-- v in o -/
def pyInO (C : Str) (spec : DSp) (neg : Bool) : D → D → (D → Prop) → Prop := fun x y A => ∃ fs, y = .obj C fs ∧ spec [y, x] (fun d => ∃ b, d = .bl b ∧ A (.bl (if neg then !b else b))) (fun _ => False)
theorem od_inO {neg : Bool} : OpD K (rInO (He.ga K C) (noE (spD K 2 spec)) neg) (pyInO C spec neg) := fun r0 G H x y dx dy A Q s g rx ry h k => by
  obtain ⟨fs, rfl, h⟩ := h
  have ry' := ry
  cases ry with
  | obj h1 h2 =>
    refine ⟨_, _, _, rfl, s _ _ h1, r0, G, _, _, _, s, g, .cons ry' (.cons rx .nil), rfl, h, fun d hd v G' H' x r => ?_, fun _ z => z.elim⟩
    obtain ⟨b, rfl, hA⟩ := hd
    cases r
    exact ⟨b, rfl, k _ hA _ _ _ x (.bl _)⟩
/-- what the head tells for == : the built-in kinds and the own classes are no subclasses -/
def nfB (K : PySem.W.Frag) (own : List Str) (C : Str) : Bool := eqCls K (He.ga K C) && (kinds.all (fun n => PySem.W.notFirst K (He.ga K C) (.type n)) && own.all fun C' => PySem.W.notFirst K (He.ga K C) (.ref (He.ga K C')))
def pyEqO (own : List Str) (C : Str) (spec : DSp) (neg : Bool) : D → D → (D → Prop) → Prop
  | .obj C' fs, y, A => C' = C ∧ kn own y = true ∧ spec [.obj C' fs, y] (fun d => ∃ b, d = .bl b ∧ A (.bl (if neg then !b else b))) (fun _ => False)
  | x, .obj C' fs, A => C' = C ∧ (tyOf x).isSome = true ∧ spec [.obj C' fs, x] (fun d => ∃ b, d = .bl b ∧ A (.bl (if neg then !b else b))) (fun _ => False)
  | x, y, A => pyEq neg x y A
def rEqAll (K : PySem.W.Frag) (C : Addr) (sp : Sp) (neg : Bool) : R2 := fun x y H Q => rEqO K C sp neg x y H Q ∨ rEqR K C sp neg x y H Q ∨ rEqP K neg x y H Q
theorem rep_bv {r : Option Addr} {G H : Hp} {v : V} {d : D} {m : String} (s : Ex G H) (g : Rg r G H) (h : Rep K r G v d) (e : tyOf d = some m) : Bv K H v m := by
  cases h with
  | non => cases e; exact .non
  | bl b => cases e; exact .bl b
  | int i => cases e; exact .int i
  | str z => cases e; exact .str z
  | ty n => cases e
  | cls C => cases e
  | rng q => cases e; obtain ⟨⟨_, _, k, _⟩, _⟩ := g _ q; exact .lst (SqL.of k)
  | lst q _ => cases e; exact .lst (SqL.of (s _ _ q))
  | tup q _ => cases e; exact .tup (ex_seqT s q)
  | dict q _ => cases e; exact .dic (s _ _ q)
  | obj _ _ => cases e
theorem od_eqO {own : List Str} {sub : Str → Str → Bool} (O : OwnF K own sub) {neg : Bool} (nf : nfB K own C = true) : OpD K (rEqAll K (He.ga K C) (noE (spD K 2 spec)) neg) (pyEqO own C spec neg) := fun r0 G H x y dx dy A Q s g rx ry h k => by
  obtain ⟨_, nf⟩ := He.ba nf
  obtain ⟨n1, n2⟩ := He.ba nf
  unfold pyEqO at h
  split at h
  · rename_i C1 _
    obtain ⟨rfl, hk, h⟩ := h
    have rx' := rx
    have ns : NotSub K (He.ga K C1) H y := by
      rcases kn_ty O s g ry hk with ⟨m, e, t⟩ | ⟨C', fs, rfl, hC', t⟩
      · exact ⟨_, t, List.all_eq_true.mp n1 m (ty_kinds e)⟩
      · exact ⟨_, t, List.all_eq_true.mp n2 C' hC'⟩
    cases rx with
    | obj h1 h2 =>
      refine .inl ⟨_, _, _, rfl, s _ _ h1, ns, r0, G, _, _, _, s, g, .cons rx' (.cons ry .nil), rfl, h, fun d hd v G' H' x r => ?_, fun _ z => z.elim⟩
      obtain ⟨b, rfl, hA⟩ := hd
      cases r
      exact ⟨b, rfl, k _ hA _ _ _ x (.bl _)⟩
  · obtain ⟨rfl, hk, h⟩ := h
    obtain ⟨m, e⟩ := Option.isSome_iff_exists.mp hk
    have ry' := ry
    cases ry with
    | obj h1 h2 =>
      refine .inr (.inl ⟨_, _, _, m, rfl, s _ _ h1, rep_bv s g rx e, r0, G, _, _, _, s, g, .cons ry' (.cons rx .nil), rfl, h, fun d hd v G' H' x r => ?_, fun _ z => z.elim⟩)
      obtain ⟨b, rfl, hA⟩ := hd
      cases r
      exact ⟨b, rfl, k _ hA _ _ _ x (.bl _)⟩
  · exact .inr (.inr (od_eq r0 G H x y _ _ A Q s g rx ry h k))
theorem op_eqAll {X : Cx} {g : Bool} {k : Nat} {C : Addr} {sp : Sp} (ec : eqCls X.K C = true) (S : Spc g X.prog X.w X.K X.mg X.base k C "__eq__" 2 sp) (hg : Gd g X.A) (hr : Room (k + 1) X.A) (hu : X.A.units + 64 < cLine) : OpR X (compareOp .Eq) (rEqAll X.K C sp false) :=
  OpR.or (op_eqO S hg (hr.mono (by omega))) (OpR.or (op_eqR ec S hg (hr.mono (by omega))) (op_eqP hu))
theorem op_neAll {X : Cx} {g : Bool} {k : Nat} {C : Addr} {sp : Sp} (ec : eqCls X.K C = true) (S : Spc g X.prog X.w X.K X.mg X.base k C "__eq__" 2 sp) (hg : Gd g X.A) (hr : Room (k + 1) X.A) (hu : X.A.units + 64 < cLine) : OpR X (compareOp .NotEq) (rEqAll X.K C sp true) :=
  OpR.or (op_neO ec S hg hr) (OpR.or (op_neR ec S hg hr) (op_neP hu))
end
end Ab

set_option Elab.async false
set_option linter.all false
set_option maxRecDepth 100000
set_option maxHeartbeats 4000000
/-! DxJ: tests, f-strings, new dicts, names of the module. -/
namespace Ab
open PySem PySem.Spec PyProof.Rows L2
section
variable {X : Cx} {xk : Xk} {W : WX} {e : Expr}
abbrev PTD (X : Cx) (xk : Xk) (W : WX) (e : Expr) (w : DE) : Prop := PT X e (tB (rdE X.K xk W w))
theorem ptd_op {r : R2} {f : D → D → (D → Prop) → Prop} {w1 w2 : DE} (hd : OpD X.K r f) (h : PT X e (tTest (tOp r (rdE X.K xk W w1) (rdE X.K xk W w2)))) : PTD X xk W e (dOp f w1 w2) := PT.to h fun σ H Q q => rd_op hd σ H _ q
theorem ptd_inO {neg : Bool} {w : DE} {i : Nat} (h : PT X e (tTest (tOp (fun x y H Q => rInP X.K neg x y H Q ∨ rInS neg x y H Q) (rdE X.K xk W w) (tVar i)))) : PTD X xk W e (dInO neg w i) := PT.to h fun σ H Q q => by
  obtain ⟨c, ρ, G, A, B, s, q, kv, kx⟩ := q
  refine ⟨c, ρ, G, _, B, s, q, fun ρ1 x q1 v1 G1 H1 s1 e1 r1 => ?_, kx⟩
  obtain ⟨l, h1, ok1, ok2, q1⟩ := q1
  obtain ⟨a, G', ha, eg, es, rl⟩ := s1.lend h1
  exact ⟨_, ha, .inl ⟨c.r, G', _, _, l, es, r1.ex eg, rl, ok1, ok2, .inl rfl, kv _ _ q1 _ _ _ s1 e1 (.bl _)⟩⟩
theorem rd_chain {r r' : R2} {f g : D → D → (D → Prop) → Prop} {w1 w2 w3 : DE} (hd : OpD X.K r f) (hd' : OpD X.K r' g) : ∀ σ H Q, rdE X.K xk W (dChain f g w1 w2 w3) σ H Q → tChain r r' (rdE X.K xk W w1) (rdE X.K xk W w2) (rdE X.K xk W w3) σ H Q := fun σ H Q q => by
  obtain ⟨c, ρ, G, A, B, s, q, kv, kx⟩ := q
  refine ⟨c, ρ, G, _, B, s, q, fun ρ1 x q1 v1 G1 H1 s1 e1 r1 => ?_, kx⟩
  refine ⟨c, ρ1, G1, _, B, s1, q1, fun ρ2 y q2 v2 G2 H2 s2 e2 r2 => ?_, kx.ex e1⟩
  refine hd c.r G2 H2 _ _ _ _ _ _ s2.sub s2.Rg (r1.ex e2) r2 q2 fun z hz v G3 H3 e3 r3 => ?_
  obtain ⟨k, rfl, hz⟩ := hz
  cases r3
  refine ⟨k, rfl, ?_⟩
  have s3 := s2.ext e3
  have e13 := (e1.trans e2).trans e3.gg
  cases k with
  | false =>
    rw [if_neg (by decide)] at hz ⊢
    exact kv _ _ hz _ _ _ s3 e13 (.bl false)
  | true =>
    rw [if_pos rfl] at hz ⊢
    refine ⟨c, ρ2, G3, _, B, s3, hz, fun ρ3 u q3 v4 G4 H4 s4 e4 r4 => ?_, kx.ex e13⟩
    exact hd' c.r G4 H4 _ _ _ _ _ _ s4.sub s4.Rg (r2.ex (e3.gg.trans e4)) r4 q3 fun z hz v G5 H5 e5 r5 => kv _ _ hz _ _ _ (s4.ext e5) ((e13.trans e4).trans e5.gg) r5
theorem ptd_chain {r r' : R2} {f g : D → D → (D → Prop) → Prop} {w1 w2 w3 : DE} (hd : OpD X.K r f) (hd' : OpD X.K r' g) (h : PT X e (tTest (tChain r r' (rdE X.K xk W w1) (rdE X.K xk W w2) (rdE X.K xk W w3)))) : PTD X xk W e (dChain f g w1 w2 w3) := PT.to h fun σ H Q q => rd_chain hd hd' σ H _ q
theorem PW.to {t t' : TT} (h : PW X e t) (i : ∀ σ H Q, t' σ H Q → t σ H Q) : PW X e t' := ⟨fun wh pins s σ H Q I q => h.run wh pins s σ H Q I (i _ _ _ q)⟩
abbrev PWD (X : Cx) (xk : Xk) (W : WX) (e : Expr) (w : DE) : Prop := PW X e (tB (rdE X.K xk W w))
theorem pwd_and {w1 w2 : DE} (h : PW X e (tAnd (tB (rdE X.K xk W w1)) (tB (rdE X.K xk W w2)))) : PWD X xk W e (dAnd w1 w2) := PW.to h fun σ H Q q => by
  obtain ⟨c, ρ, G, A, B, s, q, kv, kx⟩ := q
  refine ⟨c, ρ, G, _, B, s, q, fun ρ1 x q1 v1 G1 H1 s1 e1 r1 => ?_, kx⟩
  obtain ⟨b, rfl, q1⟩ := q1
  cases r1
  refine ⟨b, rfl, ?_⟩
  cases b with
  | false =>
    obtain ⟨k, e, z⟩ := kv _ _ q1 _ _ _ s1 e1 (.bl false)
    cases e
    exact z
  | true => exact ⟨c, ρ1, G1, A, B, s1, q1, kv.ex e1, kx.ex e1⟩
theorem pwd_or {w1 w2 : DE} (h : PW X e (tOr (tB (rdE X.K xk W w1)) (tB (rdE X.K xk W w2)))) : PWD X xk W e (dOr w1 w2) := PW.to h fun σ H Q q => by
  obtain ⟨c, ρ, G, A, B, s, q, kv, kx⟩ := q
  refine ⟨c, ρ, G, _, B, s, q, fun ρ1 x q1 v1 G1 H1 s1 e1 r1 => ?_, kx⟩
  obtain ⟨b, rfl, q1⟩ := q1
  cases r1
  refine ⟨b, rfl, ?_⟩
  cases b with
  | true =>
    obtain ⟨k, e, z⟩ := kv _ _ q1 _ _ _ s1 e1 (.bl true)
    cases e
    exact z
  | false => exact ⟨c, ρ1, G1, A, B, s1, q1, kv.ex e1, kx.ex e1⟩
theorem ptd_not {w1 : DE} (h : PT X e (tNot (tB (rdE X.K xk W w1)))) : PTD X xk W e (dNot w1) := PT.to h fun σ H Q q => by
  obtain ⟨c, ρ, G, A, B, s, q, kv, kx⟩ := q
  refine ⟨c, ρ, G, _, B, s, q, fun ρ1 x q1 v1 G1 H1 s1 e1 r1 => ?_, kx⟩
  obtain ⟨b, rfl, q1⟩ := q1
  cases r1
  refine ⟨b, rfl, ?_⟩
  obtain ⟨k, e, z⟩ := kv _ _ q1 _ _ _ s1 e1 (.bl _)
  cases e
  exact z
/-! ### {} -/
def dDnew : DO := fun ρ A _ => A ρ (.m [])
theorem pdo_dnew (h : PE X e tDNewK) : PDO X xk W e dDnew := PE.to h fun σ H Q q => by
  obtain ⟨c, ρ, G, A, B, s, q, kv, kx⟩ := q
  intro p hp
  exact kv _ _ q _ _ _ (s.ext (Ext.newO s.sub s.Rg hp)) (Same.refl _) (Tmp.of_new s hp (.m .nil) nofun)
/-! ### f-strings -/
def dFmt (w : DE) : DE := fun ρ A B => w ρ (fun ρ1 x => (∃ y, x = .str y ∧ (cs y).length ≤ 1000000 ∧ A ρ1 (.str y)) ∨ ∃ i, x = .int i ∧ i.natAbs.log2 < 1920 ∧ A ρ1 (.str (toString i))) B
theorem pd_fmt {w : DE} (h : PE X e (tFmt (rdE X.K xk W w))) : PD X xk W e (dFmt w) := PE.to h fun σ H Q q => by
  obtain ⟨c, ρ, G, A, B, s, q, kv, kx⟩ := q
  refine ⟨c, ρ, G, _, B, s, q, fun ρ1 x q1 v1 G1 H1 s1 e1 r1 => ?_, kx⟩
  rcases q1 with ⟨y, rfl, hy, q1⟩ | ⟨i, rfl, hi, q1⟩
  · cases r1
    exact .inl ⟨y, rfl, str_line hy, kv _ _ q1 _ _ _ s1 e1 (.str _)⟩
  · cases r1
    exact .inr ⟨i, rfl, hi, kv _ _ q1 _ _ _ s1 e1 (.str _)⟩
def dJs : List DE → Str → Rho → (Rho → Str → Prop) → DB → Prop
  | [], acc, ρ, A, _ => A ρ acc
  | w :: ws, acc, ρ, A, B => w ρ (fun ρ1 x => ∃ y, x = .str y ∧ (cs acc).length + (cs y).length ≤ 1000000 ∧ dJs ws (acc ++ y) ρ1 A B) B
theorem js_ok {c : Dc} {σ : L2.St} {Q : Str → Hp → Prop} {A : Rho → Str → Prop} {B : DB} : ∀ (ws : List DE) (acc : Str) (ρ : Rho) (G H : Hp), SR X.K xk c ρ σ G H → dJs ws acc ρ A B → (∀ ρ' z, A ρ' z → ∀ G' H', SR X.K xk c ρ' σ G' H' → Ex G G' → Q z H') → KXl X.K xk c G σ W B → tJs (ws.map fun w => rdE X.K xk W w) acc σ H Q
  | [], acc, ρ, G, H, s, h, k, kx => k _ _ h _ _ s (Same.refl _)
  | w :: ws, acc, ρ, G, H, s, h, k, kx => by
    refine ⟨c, ρ, G, _, B, s, h, fun ρ1 x q1 v1 G1 H1 s1 e1 r1 => ?_, kx⟩
    obtain ⟨y, rfl, hy, q1⟩ := q1
    cases r1
    refine ⟨y, rfl, ?_, js_ok ws (acc ++ y) ρ1 G1 H1 s1 q1 (fun ρ' z a G' H' s' e' => k ρ' z a G' H' s' (e1.trans e')) (kx.ex e1)⟩
    rw [strLen_append, cs_len, cs_len]
    exact big_le hy
def dJoined (ws : List DE) : DE := fun ρ A B => dJs ws Str.empty ρ (fun ρ1 z => A ρ1 (.str z)) B
theorem pd_joined (ws : List DE) (h : PE X e (fun σ H Q => tJs (ws.map fun w => rdE X.K xk W w) Str.empty σ H fun out H1 => Q (.str out) H1)) : PD X xk W e (dJoined ws) := PE.to h fun σ H Q q => by
  obtain ⟨c, ρ, G, A, B, s, q, kv, kx⟩ := q
  exact js_ok ws Str.empty ρ G H s q (fun ρ' z a G' H' s' e' => kv _ _ a _ _ _ s' e' (.str _)) kx
/-! ### tuples of the module -/
theorem pd_gtup {x : Str} {vs : List He.Dv} {ds : List D} (hB : He.tupB X.K x vs = true) (hr : ∀ r G, RepL X.K r G (vs.map (He.Dv.v X.K)) ds) (h : PE X e (tC (.ref (He.ga X.K x)))) : PD X xk W e (dC (.tup ds)) := pd_c h fun r G => .tup (He.tupB_ok hB G) (hr r G)
/-- f(a, .., k = v): every parameter is given -/
theorem pe_okX {g : Bool} {k n : Nat} {d : He.DefD} {ps ks : List Str} {sp : Sp} {x : Str} {p pos : Pos} {es : List Expr} {kws : List Keyword} {t tk : TA} {gV : List V → List V → List V} (F : Fo g X.prog X.w X.K X.mg X.base (L2.CX X.prog X.w) k d ps sp) (hm : X.mg x = some (.ref (He.fAd X.K d.at_)))
    (hb : ∀ fd, FunD X.K d.name d.qual d.params d.body d.scope (d.dvs X.K) (d.kws X.K) (He.fAd X.K d.at_) fd → Bw X.K fd ps n ks gV)
    (hg : Gd g X.A) (hr : Room k X.A) (gl : Gl X x) (hx : Takes X W)
    (ha : PA X (e :: es) t) (hkw : PK X kws tk) (hall : (backToKw pos (keywordEach kws X.env)).all (·.1.isSome) = true := by rfl)
    (hks : (backToKw pos (keywordEach kws X.env)).filterMap (·.1) = ks := by rfl)
    (hdb : (x == ("__debug__" : Str)) = false := by decide) (he : starEach (e :: es) X.env = (false, eval e X.env) :: starEach es X.env := by rfl)
    (hpl : ((backTo pos (starEach (e :: es) X.env)).any (·.1) || (backToKw pos (keywordEach kws X.env)).any (·.1.isNone)) = false := by rfl) :
    PE X (.Call (.Name x p) (e :: es) kws pos) (tOX n ks.length sp gV W t tk) := by
  obtain ⟨fd, F1, FD⟩ := F
  refine ⟨fun pins s σ H Q I h => wpAny_Call_Name_kw (ld_glob I gl hm ?_ hdb)⟩
  refine PySem.W.callWith_KW (h₀ := X.base) I.ok.mod.kin FD.kp hall (thn (ha.run pos pins s σ H _ I h) fun us s1 q => ?_) hpl he
  obtain ⟨vs, H1, I1, r, q⟩ := q
  refine thn (hkw.run pos pins s1 σ H1 _ I1 q) fun ws s2 q2 => ?_
  obtain ⟨ys, H2, I2, rz, l1, l2, q3⟩ := q2
  rw [hks]
  obtain ⟨zs, hB, hV⟩ := hb fd FD s2 us ws I2.kIn (r.length.symm.trans l1) (rz.length.symm.trans l2)
  exact ⟨I2.kIn, wpAny_call (run_fx F1 hg hr hB hx I2 (hV vs ys r rz) q3)⟩
/-- keywords -/
theorem PK.to {ks : List Keyword} {t t' : TA} (h : PK X ks t) (i : ∀ σ H Q, t' σ H Q → t σ H Q) : PK X ks t' := ⟨fun pos pins s σ H Q I q => h.run pos pins s σ H Q I (i _ _ _ q)⟩
theorem pkd_nil (h : PK X [] tNil) : PK X [] (rdA X.K xk W dNil) := PK.to h fun σ H Q q => by
  obtain ⟨c, ρ, G, A, B, s, q, kv, kx⟩ := q
  exact kv _ _ q _ _ _ s (Same.refl _) .nil
theorem pkd_cons {ks : List Keyword} {w : DE} {ws : DA} (h : PK X ks (tCons (rdE X.K xk W w) (rdA X.K xk W ws))) : PK X ks (rdA X.K xk W (dCons w ws)) := PK.to h fun σ H Q q => by
  obtain ⟨c, ρ, G, A, B, s, q, kv, kx⟩ := q
  refine ⟨c, ρ, G, _, B, s, q, fun ρ1 x q1 v1 G1 H1 s1 e1 r1 => ?_, kx⟩
  exact ⟨c, ρ1, G1, _, B, s1, q1, fun ρ2 y q2 v2 G2 H2 s2 e2 r2 => kv _ _ q2 _ _ _ s2 (e1.trans e2) (.cons (r1.ex e2) r2), kx.ex e1⟩
/-- how values bind, and the data they stand for -/
def GvD (gV : List V → List V → List V) (gD : List D → List D → List D) : Prop := ∀ (K : PySem.W.Frag) (r : Option Addr) (G : Hp) (vs ys : List V) (ds es : List D), RepL K r G vs ds → RepL K r G ys es → RepL K r G (gV vs ys) (gD ds es)
theorem gvd_pos : GvD gPos (fun ds _ => ds) := fun _ _ _ _ _ _ _ h _ => h
theorem gvd_app : GvD (fun xs ys => xs ++ ys) (fun xs ys => xs ++ ys) := fun _ _ _ _ _ _ _ h k => h.append k
theorem gvd_kw : GvD (fun _ ys => ys) (fun _ ys => ys) := fun _ _ _ _ _ _ _ _ k => k
def dCallK (n m : Nat) (gD : List D → List D → List D) (l : Nat) (spec : DSp) (w wk : DA) : DE := fun ρ A B => w ρ (fun ρ1 xs => wk ρ1 (fun ρ2 ys => xs.length = n ∧ ys.length = m ∧ (gD xs ys).length = l ∧ spec (gD xs ys) (A ρ2) (B ρ2)) B) B
theorem pd_callK {n m l : Nat} {spec : DSp} {gV : List V → List V → List V} {gD : List D → List D → List D} {w wk : DA} (hG : GvD gV gD) (h : PE X e (tOX n m (spD X.K l spec) gV W (rdA X.K xk W w) (rdA X.K xk W wk))) : PD X xk W e (dCallK n m gD l spec w wk) := PE.to h fun σ H Q q => by
  obtain ⟨c, ρ, G, A, B, s, q, kv, kx⟩ := q
  refine ⟨c, ρ, G, _, B, s, q, fun ρ1 xs q1 v1 G1 H1 s1 e1 r1 => ?_, kx⟩
  refine ⟨c, ρ1, G1, _, B, s1, q1, fun ρ2 ys q2 v2 G2 H2 s2 e2 r2 => ?_, kx.ex e1⟩
  exact ⟨by rw [r1.length]; exact q2.1, by rw [r2.length]; exact q2.2.1, c.r, G2, _, _, _, s2.sub, s2.Rg, hG _ _ _ _ _ _ _ (r1.ex e2) r2, q2.2.2.1, q2.2.2.2, fun d hd v G' H' x r => kv _ _ hd _ _ _ (s2.ext x) ((e1.trans e2).trans x.gg) r, fun y hy G' H' cls dx x r => kx _ _ hy _ _ _ _ (s2.ext x) ((e1.trans e2).trans x.gg) r⟩
end
/-! ### kinds -/
theorem isNon_non  : Ab.isNon (.non) = true := rfl
theorem isNon_bl (b : Bool) : Ab.isNon (.bl b) = false := rfl
theorem isNon_int (i : Int) : Ab.isNon (.int i) = false := rfl
theorem isNon_str (z : Str) : Ab.isNon (.str z) = false := rfl
theorem isNon_lst (l : List D) : Ab.isNon (.lst l) = false := rfl
theorem isNon_tup (l : List D) : Ab.isNon (.tup l) = false := rfl
theorem isNon_dict (l : List (Key × D)) : Ab.isNon (.dict l) = false := rfl
theorem isNon_obj (C : Str) (fs : List (Str × D)) : Ab.isNon (.obj C fs) = false := rfl
theorem isNon_rng  : Ab.isNon (.rng) = false := rfl
theorem isStrD_non  : isStrD (.non) = false := rfl
theorem isStrD_bl (b : Bool) : isStrD (.bl b) = false := rfl
theorem isStrD_int (i : Int) : isStrD (.int i) = false := rfl
theorem isStrD_str (z : Str) : isStrD (.str z) = true := rfl
theorem isStrD_lst (l : List D) : isStrD (.lst l) = false := rfl
theorem isStrD_tup (l : List D) : isStrD (.tup l) = false := rfl
theorem isStrD_dict (l : List (Key × D)) : isStrD (.dict l) = false := rfl
theorem isStrD_obj (C : Str) (fs : List (Str × D)) : isStrD (.obj C fs) = false := rfl
theorem isStrD_rng  : isStrD (.rng) = false := rfl
theorem isIntD_non  : isIntD (.non) = false := rfl
theorem isIntD_bl (b : Bool) : isIntD (.bl b) = true := rfl
theorem isIntD_int (i : Int) : isIntD (.int i) = true := rfl
theorem isIntD_str (z : Str) : isIntD (.str z) = false := rfl
theorem isIntD_lst (l : List D) : isIntD (.lst l) = false := rfl
theorem isIntD_tup (l : List D) : isIntD (.tup l) = false := rfl
theorem isIntD_dict (l : List (Key × D)) : isIntD (.dict l) = false := rfl
theorem isIntD_obj (C : Str) (fs : List (Str × D)) : isIntD (.obj C fs) = false := rfl
theorem isIntD_rng  : isIntD (.rng) = false := rfl
theorem isBlD_non  : isBlD (.non) = false := rfl
theorem isBlD_bl (b : Bool) : isBlD (.bl b) = true := rfl
theorem isBlD_int (i : Int) : isBlD (.int i) = false := rfl
theorem isBlD_str (z : Str) : isBlD (.str z) = false := rfl
theorem isBlD_lst (l : List D) : isBlD (.lst l) = false := rfl
theorem isBlD_tup (l : List D) : isBlD (.tup l) = false := rfl
theorem isBlD_dict (l : List (Key × D)) : isBlD (.dict l) = false := rfl
theorem isBlD_obj (C : Str) (fs : List (Str × D)) : isBlD (.obj C fs) = false := rfl
theorem isBlD_rng  : isBlD (.rng) = false := rfl
theorem isLstD_non  : isLstD (.non) = false := rfl
theorem isLstD_bl (b : Bool) : isLstD (.bl b) = false := rfl
theorem isLstD_int (i : Int) : isLstD (.int i) = false := rfl
theorem isLstD_str (z : Str) : isLstD (.str z) = false := rfl
theorem isLstD_lst (l : List D) : isLstD (.lst l) = true := rfl
theorem isLstD_tup (l : List D) : isLstD (.tup l) = false := rfl
theorem isLstD_dict (l : List (Key × D)) : isLstD (.dict l) = false := rfl
theorem isLstD_obj (C : Str) (fs : List (Str × D)) : isLstD (.obj C fs) = false := rfl
theorem isLstD_rng  : isLstD (.rng) = true := rfl
theorem isTupD_non  : isTupD (.non) = false := rfl
theorem isTupD_bl (b : Bool) : isTupD (.bl b) = false := rfl
theorem isTupD_int (i : Int) : isTupD (.int i) = false := rfl
theorem isTupD_str (z : Str) : isTupD (.str z) = false := rfl
theorem isTupD_lst (l : List D) : isTupD (.lst l) = false := rfl
theorem isTupD_tup (l : List D) : isTupD (.tup l) = true := rfl
theorem isTupD_dict (l : List (Key × D)) : isTupD (.dict l) = false := rfl
theorem isTupD_obj (C : Str) (fs : List (Str × D)) : isTupD (.obj C fs) = false := rfl
theorem isTupD_rng  : isTupD (.rng) = false := rfl
theorem isDicD_non  : isDicD (.non) = false := rfl
theorem isDicD_bl (b : Bool) : isDicD (.bl b) = false := rfl
theorem isDicD_int (i : Int) : isDicD (.int i) = false := rfl
theorem isDicD_str (z : Str) : isDicD (.str z) = false := rfl
theorem isDicD_lst (l : List D) : isDicD (.lst l) = false := rfl
theorem isDicD_tup (l : List D) : isDicD (.tup l) = false := rfl
theorem isDicD_dict (l : List (Key × D)) : isDicD (.dict l) = true := rfl
theorem isDicD_obj (C : Str) (fs : List (Str × D)) : isDicD (.obj C fs) = false := rfl
theorem isDicD_rng  : isDicD (.rng) = false := rfl
theorem kn_non {own : List Str}  : kn own (.non) = true := rfl
theorem kn_bl {own : List Str} (b : Bool) : kn own (.bl b) = true := rfl
theorem kn_int {own : List Str} (i : Int) : kn own (.int i) = true := rfl
theorem kn_str {own : List Str} (z : Str) : kn own (.str z) = true := rfl
theorem kn_lst {own : List Str} (l : List D) : kn own (.lst l) = true := rfl
theorem kn_tup {own : List Str} (l : List D) : kn own (.tup l) = true := rfl
theorem kn_dict {own : List Str} (l : List (Key × D)) : kn own (.dict l) = true := rfl
theorem kn_obj {own : List Str} (C : Str) (fs : List (Str × D)) : kn own (.obj C fs) = decide (C ∈ own) := rfl
theorem kn_rng {own : List Str}  : kn own (.rng) = true := rfl
theorem tyOf_non  : tyOf (.non) = some "NoneType" := rfl
theorem tyOf_bl (b : Bool) : tyOf (.bl b) = some "bool" := rfl
theorem tyOf_int (i : Int) : tyOf (.int i) = some "int" := rfl
theorem tyOf_str (z : Str) : tyOf (.str z) = some "str" := rfl
theorem tyOf_lst (l : List D) : tyOf (.lst l) = some "list" := rfl
theorem tyOf_tup (l : List D) : tyOf (.tup l) = some "tuple" := rfl
theorem tyOf_dict (l : List (Key × D)) : tyOf (.dict l) = some "dict" := rfl
theorem tyOf_rng  : tyOf (.rng) = some "list" := rfl
theorem isObjD_obj (sub : Str → Str → Bool) (C C1 : Str) (fs : List (Str × D)) : isObjD sub C (.obj C1 fs) = sub C1 C := rfl
theorem isObjD_non (sub : Str → Str → Bool) (C : Str)  : isObjD sub C (.non) = false := rfl
theorem isObjD_bl (sub : Str → Str → Bool) (C : Str) (b : Bool) : isObjD sub C (.bl b) = false := rfl
theorem isObjD_int (sub : Str → Str → Bool) (C : Str) (i : Int) : isObjD sub C (.int i) = false := rfl
theorem isObjD_str (sub : Str → Str → Bool) (C : Str) (z : Str) : isObjD sub C (.str z) = false := rfl
theorem isObjD_lst (sub : Str → Str → Bool) (C : Str) (l : List D) : isObjD sub C (.lst l) = false := rfl
theorem isObjD_tup (sub : Str → Str → Bool) (C : Str) (l : List D) : isObjD sub C (.tup l) = false := rfl
theorem isObjD_dict (sub : Str → Str → Bool) (C : Str) (l : List (Key × D)) : isObjD sub C (.dict l) = false := rfl
theorem isObjD_rng (sub : Str → Str → Bool) (C : Str)  : isObjD sub C (.rng) = false := rfl
theorem Ow_d_l (xs : List D) : Ow.d (.l xs) = D.lst xs := rfl
theorem Ow_d_i (C : Str) (fs : List (Str × D)) : Ow.d (.i C fs) = D.obj C fs := rfl
theorem Ow_d_m (kvs : List (Key × D)) : Ow.d (.m kvs) = D.dict kvs := rfl
theorem pyAdd_i (a b : Int) (A : D → Prop) : pyAdd (.int a) (.int b) A = A (.int (a + b)) := rfl
theorem pyAdd_s (a b : Str) (A : D → Prop) : pyAdd (.str a) (.str b) A = ((cs a).length + (cs b).length ≤ 1000000 ∧ A (.str (a ++ b))) := rfl
theorem pyAdd_l (a b : List D) (A : D → Prop) : pyAdd (.lst a) (.lst b) A = (a.length + b.length ≤ 1000000 ∧ A (.lst (a ++ b))) := rfl
theorem pyAdd_t (a b : List D) (A : D → Prop) : pyAdd (.tup a) (.tup b) A = (a.length + b.length ≤ 1000000 ∧ A (.tup (a ++ b))) := rfl
theorem pySub_i (a b : Int) (A : D → Prop) : pySub (.int a) (.int b) A = A (.int (a - b)) := rfl
theorem pyMul_i (a b : Int) (A : D → Prop) : pyMul (.int a) (.int b) A = (CMul a b ∧ A (.int (a * b))) := rfl
theorem pyMul_s (a : Str) (b : Int) (A : D → Prop) : pyMul (.str a) (.int b) A = (0 ≤ b ∧ b ≤ 100000 ∧ (cs a).length * b.toNat ≤ 1000000 ∧ A (.str (repS a b.toNat))) := rfl
theorem pyMod_i (a b : Int) (A : D → Prop) : pyMod (.int a) (.int b) A = (0 < b ∧ A (.int (a % b))) := rfl
theorem pyFdv_i (a b : Int) (A : D → Prop) : pyFdv (.int a) (.int b) A = (CDiv a b ∧ A (.int (a / b))) := rfl
theorem pyPow_i (a b : Int) (A : D → Prop) : pyPow (.int a) (.int b) A = (CPow a b ∧ A (.int (a ^ b.toNat))) := rfl
theorem pyLt_i (a b : Int) (A : D → Prop) : pyLt (.int a) (.int b) A = A (.bl (decide (a < b))) := rfl
theorem pyLt_s (a b : Str) (A : D → Prop) : pyLt (.str a) (.str b) A = A (.bl (decide (cs a < cs b))) := rfl
theorem pyLe_i (a b : Int) (A : D → Prop) : pyLe (.int a) (.int b) A = A (.bl (decide (a ≤ b))) := rfl
theorem pyLe_s (a b : Str) (A : D → Prop) : pyLe (.str a) (.str b) A = A (.bl (!decide (cs b < cs a))) := rfl
theorem pyGt_i (a b : Int) (A : D → Prop) : pyGt (.int a) (.int b) A = A (.bl (decide (b < a))) := rfl
theorem pyGt_s (a b : Str) (A : D → Prop) : pyGt (.str a) (.str b) A = A (.bl (decide (cs b < cs a))) := rfl
theorem pyGe_i (a b : Int) (A : D → Prop) : pyGe (.int a) (.int b) A = A (.bl (decide (b ≤ a))) := rfl
theorem pyGe_s (a b : Str) (A : D → Prop) : pyGe (.str a) (.str b) A = A (.bl (!decide (cs a < cs b))) := rfl
theorem pyNeg_i (a : Int) (A : D → Prop) : pyNeg (.int a) A = A (.int (-a)) := rfl
theorem pyIn_l (neg : Bool) (x : D) (l : List D) (A : D → Prop) : pyIn neg x (.lst l) A = (okD x = true ∧ okD (.lst l) = true ∧ A (.bl (if neg then !inD x l else inD x l))) := rfl
theorem pyIn_t (neg : Bool) (x : D) (l : List D) (A : D → Prop) : pyIn neg x (.tup l) A = (okD x = true ∧ okD (.tup l) = true ∧ A (.bl (if neg then !inD x l else inD x l))) := rfl
theorem pyIn_s (neg : Bool) (y z : Str) (A : D → Prop) : pyIn neg (.str y) (.str z) A = (∃ c, y = ⟨#[c]⟩ ∧ A (.bl (if neg then !decide (c ∈ cs z) else decide (c ∈ cs z)))) := rfl
theorem pyIx_l (l : List D) (i : Int) (A : D → Prop) : pyIx (.lst l) (.int i) A = (∃ d, atI l i = some d ∧ A d) := rfl
theorem pyIx_t (l : List D) (i : Int) (A : D → Prop) : pyIx (.tup l) (.int i) A = (∃ d, atI l i = some d ∧ A d) := rfl
theorem pyIx_s (z : Str) (i : Int) (A : D → Prop) : pyIx (.str z) (.int i) A = ((cs z).length ≤ 1000000 ∧ ∃ c, atI (cs z) i = some c ∧ A (.str ⟨#[c]⟩)) := rfl
theorem pySl_s (z : Str) (lo hi : Option Int) (A : D → Prop) : pySl (.str z) lo hi A = ((cs z).length ≤ 1000000 ∧ A (.str (cutS z lo hi))) := rfl
theorem pySl_t (l : List D) (lo hi : Option Int) (A : D → Prop) : pySl (.tup l) lo hi A = A (.tup (cutD l lo hi)) := rfl
theorem pySl_l (l : List D) (lo hi : Option Int) (A : D → Prop) : pySl (.lst l) lo hi A = A (.lst (cutD l lo hi)) := rfl
theorem pyUpper_s (z : Str) (A : D → Prop) : pyUpper (.str z) A = ((cs z).length ≤ 1000000 ∧ A (.str (Txt.upper z))) := rfl
theorem pyLower_s (z : Str) (A : D → Prop) : pyLower (.str z) A = ((cs z).length ≤ 1000000 ∧ A (.str (Txt.lower z))) := rfl
theorem pyEqO_o (own : List Str) (C : Str) (spec : DSp) (neg : Bool) (C1 : Str) (fs : List (Str × D)) (y : D) (A : D → Prop) : pyEqO own C spec neg (.obj C1 fs) y A = (C1 = C ∧ kn own y = true ∧ spec [.obj C1 fs, y] (fun d => ∃ b, d = .bl b ∧ A (.bl (if neg then !b else b))) (fun _ => False)) := rfl
theorem pyEqO_rnon (own : List Str) (C : Str) (spec : DSp) (neg : Bool)  (C1 : Str) (fs : List (Str × D)) (A : D → Prop) : pyEqO own C spec neg (.non) (.obj C1 fs) A = (C1 = C ∧ (tyOf (.non)).isSome = true ∧ spec [.obj C1 fs, .non] (fun d => ∃ b, d = .bl b ∧ A (.bl (if neg then !b else b))) (fun _ => False)) := rfl
theorem pyEqO_rbl (own : List Str) (C : Str) (spec : DSp) (neg : Bool) (b : Bool) (C1 : Str) (fs : List (Str × D)) (A : D → Prop) : pyEqO own C spec neg (.bl b) (.obj C1 fs) A = (C1 = C ∧ (tyOf (.bl b)).isSome = true ∧ spec [.obj C1 fs, .bl b] (fun d => ∃ b, d = .bl b ∧ A (.bl (if neg then !b else b))) (fun _ => False)) := rfl
theorem pyEqO_rint (own : List Str) (C : Str) (spec : DSp) (neg : Bool) (i : Int) (C1 : Str) (fs : List (Str × D)) (A : D → Prop) : pyEqO own C spec neg (.int i) (.obj C1 fs) A = (C1 = C ∧ (tyOf (.int i)).isSome = true ∧ spec [.obj C1 fs, .int i] (fun d => ∃ b, d = .bl b ∧ A (.bl (if neg then !b else b))) (fun _ => False)) := rfl
theorem pyEqO_rstr (own : List Str) (C : Str) (spec : DSp) (neg : Bool) (z : Str) (C1 : Str) (fs : List (Str × D)) (A : D → Prop) : pyEqO own C spec neg (.str z) (.obj C1 fs) A = (C1 = C ∧ (tyOf (.str z)).isSome = true ∧ spec [.obj C1 fs, .str z] (fun d => ∃ b, d = .bl b ∧ A (.bl (if neg then !b else b))) (fun _ => False)) := rfl
theorem pyEqO_rlst (own : List Str) (C : Str) (spec : DSp) (neg : Bool) (l : List D) (C1 : Str) (fs : List (Str × D)) (A : D → Prop) : pyEqO own C spec neg (.lst l) (.obj C1 fs) A = (C1 = C ∧ (tyOf (.lst l)).isSome = true ∧ spec [.obj C1 fs, .lst l] (fun d => ∃ b, d = .bl b ∧ A (.bl (if neg then !b else b))) (fun _ => False)) := rfl
theorem pyEqO_rtup (own : List Str) (C : Str) (spec : DSp) (neg : Bool) (l : List D) (C1 : Str) (fs : List (Str × D)) (A : D → Prop) : pyEqO own C spec neg (.tup l) (.obj C1 fs) A = (C1 = C ∧ (tyOf (.tup l)).isSome = true ∧ spec [.obj C1 fs, .tup l] (fun d => ∃ b, d = .bl b ∧ A (.bl (if neg then !b else b))) (fun _ => False)) := rfl
theorem pyEqO_rdict (own : List Str) (C : Str) (spec : DSp) (neg : Bool) (l : List (Key × D)) (C1 : Str) (fs : List (Str × D)) (A : D → Prop) : pyEqO own C spec neg (.dict l) (.obj C1 fs) A = (C1 = C ∧ (tyOf (.dict l)).isSome = true ∧ spec [.obj C1 fs, .dict l] (fun d => ∃ b, d = .bl b ∧ A (.bl (if neg then !b else b))) (fun _ => False)) := rfl
theorem fnLen_s (z : Str) (A : D → Prop) : fnLen [.str z] A = ((cs z).length ≤ 1000000 ∧ A (.int ((cs z).length : Int))) := rfl
theorem fnLen_l (l : List D) (A : D → Prop) : fnLen [.lst l] A = A (.int (l.length : Int)) := rfl
theorem fnLen_t (l : List D) (A : D → Prop) : fnLen [.tup l] A = A (.int (l.length : Int)) := rfl
theorem fnLen_d (l : List (Key × D)) (A : D → Prop) : fnLen [.dict l] A = A (.int (l.length : Int)) := rfl
theorem fnTup_l (l : List D) (A : D → Prop) : fnTup [.lst l] A = A (.tup l) := rfl
theorem fnTup_t (l : List D) (A : D → Prop) : fnTup [.tup l] A = A (.tup l) := rfl
theorem fnList_l (l : List D) (A : List D → Prop) : fnList [.lst l] A = A l := rfl
theorem fnList_t (l : List D) (A : List D → Prop) : fnList [.tup l] A = A l := rfl
/-! ### comprehensions over lists of known form -/
section
variable {j : Nat} {we wt : DE} {A : Rho → Ow → Prop} {ρ : Rho} {α : Type}
theorem wipe2 : wipeR (wipeR ρ [j]) [j] = wipeR ρ [j] := by
  show (ρ.set j .no).set j .no = ρ.set j .no
  rw [List.set_set]
theorem lc_mapG (xs : List α) (g f : α → D) (hl : xs.length ≤ 1000000) (h : ∀ a ∈ xs, ∀ Q : DQ, Q ((wipeR ρ [j]).set j (.d (g a))) (f a) → we ((wipeR ρ [j]).set j (.d (g a))) Q noX) (hA : A (wipeR ρ [j]) (.l (xs.map f))) : dLc [j] (gN j) dYes we (xs.map g) A ρ := by
  refine ⟨fun i ρ' acc => ρ' = wipeR ρ [j] ∧ acc = (xs.take i).map f, by rw [List.length_map]; exact hl, ⟨rfl, rfl⟩, fun i x ρ' acc hx hp => ?_, fun ρ' acc hp => ?_⟩
  · obtain ⟨rfl, rfl⟩ := hp
    rw [List.getElem?_map] at hx
    cases e : xs[i]? with
    | none => rw [e] at hx; cases hx
    | some a =>
      rw [e] at hx
      cases hx
      refine ⟨true, rfl, (if_pos rfl).mpr (h a (List.mem_of_getElem? e) _ ⟨wipe1, ?_⟩)⟩
      rw [List.take_add_one, e, List.map_append]
      rfl
  · obtain ⟨rfl, rfl⟩ := hp
    rw [List.length_map, List.take_length, wipe2]
    exact hA
theorem lc_filterG (xs : List α) (g f : α → D) (p : α → Bool) (hl : xs.length ≤ 1000000) (ht : ∀ a ∈ xs, ∀ Q : DQ, Q ((wipeR ρ [j]).set j (.d (g a))) (.bl (p a)) → wt ((wipeR ρ [j]).set j (.d (g a))) Q noX)
    (h : ∀ a ∈ xs, p a = true → ∀ Q : DQ, Q ((wipeR ρ [j]).set j (.d (g a))) (f a) → we ((wipeR ρ [j]).set j (.d (g a))) Q noX) (hA : A (wipeR ρ [j]) (.l ((xs.filter p).map f))) : dLc [j] (gN j) wt we (xs.map g) A ρ := by
  refine ⟨fun i ρ' acc => ρ' = wipeR ρ [j] ∧ acc = ((xs.take i).filter p).map f, by rw [List.length_map]; exact hl, ⟨rfl, rfl⟩, fun i x ρ' acc hx hp => ?_, fun ρ' acc hp => ?_⟩
  · obtain ⟨rfl, rfl⟩ := hp
    rw [List.getElem?_map] at hx
    cases e : xs[i]? with
    | none => rw [e] at hx; cases hx
    | some a =>
      rw [e] at hx
      cases hx
      refine ht a (List.mem_of_getElem? e) _ ⟨_, rfl, ?_⟩
      cases hpx : p a with
      | true =>
        refine (if_pos rfl).mpr (h a (List.mem_of_getElem? e) hpx _ ⟨wipe1, ?_⟩)
        rw [List.take_add_one, e, List.filter_append, List.map_append]
        simp [hpx]
      | false =>
        refine (if_neg (by decide)).mpr ⟨wipe1, ?_⟩
        rw [List.take_add_one, e, List.filter_append, List.map_append]
        simp [hpx]
  · obtain ⟨rfl, rfl⟩ := hp
    rw [List.length_map, List.take_length, wipe2]
    exact hA
end
theorem chars_eq (z : Str) : chars z = (cs z).map fun c => D.str ⟨#[c]⟩ := rfl
theorem all_map_id {α : Type} (xs : List α) (f : α → Bool) : ((xs.map f).all id) = xs.all f := by
  rw [List.all_map]
  rfl
theorem map_bl {α : Type} (xs : List α) (f : α → Bool) : (xs.map fun a => D.bl (f a)) = (xs.map f).map D.bl := by rw [List.map_map]; rfl
/-- a def by its body, by data, wherever it lies -/
theorem fq_mk {g : Bool} {P : Program} {w : World} {K : PySem.W.Frag} {mg : Str → Option Value} {base : Heap} {k n m : Nat} {x qual : Str} {params : Arguments} {body : List Stmt} {scope : Scope} {dvs : List V} {kws : List (Str × V)} {f : Addr} {N ps : List Str} {spec : DSp} {fd : FuncData} {wb : DS}
    (F : FunD K x qual params body scope dvs kws f fd) (S : FnScope N ps scope) (hn : ps.length = n) (hm : N.length = m)
    (hbody : ∀ (cdv : Value) (A : Around) (outer : List Env) (s : Shared) (H : Hp) (E : XK), Gd g (A.deeper (envOfC qual scope s.heap.objs.size f cdv)) → Room k (A.deeper (envOfC qual scope s.heap.objs.size f cdv)) →
      PSDs (cxOf (L2.CX P w) P w K mg base N qual scope f cdv A outer s H E) none (fun cls dx _ H' => E cls dx H') body wb)
    (hpure : ∀ ds Q B, ds.length = n → spec ds Q B → wb (endsF Q B) (rho0 m ds)) : Fq g P w K mg base (L2.CX P w) (k + 1) f fd ps (spD K n spec) := by
  subst hm
  refine Fq.mk' F S (fun vs H Q E h => ?_) (fun cdv A outer s H vs Q E hg hr h => ?_)
  · obtain ⟨r, G, ds, A, B, _, _, h1, h2, _⟩ := h
    rw [h1.length, h2, hn]
  · obtain ⟨r, G, ds, A', B', sub, rg, h1, h2, h3, h4, h5⟩ := h
    refine ⟨_, hbody cdv A outer s H E hg hr, { r := r, F := fun b => if r = some b then none else H b, G0 := G }, rho0 N.length ds, G, endsF A' B', sr_start sub rg h1, hpure ds A' B' h2 h3, ?_⟩
    exact ⟨fun ρ' a σ' G' H' s' _ => h4 _ a _ _ _ (sr_end s') .non, fun ρ' x a σ' v G' H' s' _ r' => h4 _ a _ _ _ (sr_end s') r', fun _ z => z.elim, fun _ z => z.elim, fun ρ' x a σ' G' H' cls dx s' _ r' => h5 _ a _ _ _ _ (sr_end s') r'⟩
/-- a slot's reading, kept shut until the slot is known -/
def dVat (ρ : Rho) (i : Nat) (s : Option Sl) (Q : DQ) : Prop := match s with
  | some (.d x) => Q ρ x
  | some (.o l) => Q (ρ.set i (.d l.d)) l.d
  | _ => False
theorem dV_eq (i : Nat) (ρ : Rho) (Q : DQ) (B : DB) : dV i ρ Q B = dVat ρ i ρ[i]? Q := rfl
theorem dVat_d (ρ : Rho) (i : Nat) (x : D) (Q : DQ) : dVat ρ i (some (.d x)) Q = Q ρ x := rfl
theorem dVat_o (ρ : Rho) (i : Nat) (l : Ow) (Q : DQ) : dVat ρ i (some (.o l)) Q = Q (ρ.set i (.d l.d)) l.d := rfl
theorem gT_two (i j : Nat) (x y : D) (ρ : Rho) (A : Rho → Prop) : gT [i, j] (.tup [x, y]) ρ A = A ((ρ.set i (.d x)).set j (.d y)) := by
  apply propext
  unfold gT
  constructor
  · rintro ⟨xs, e, _, h⟩
    cases e
    exact h
  · exact fun h => ⟨_, rfl, rfl, h⟩
theorem gT_three (i j k : Nat) (x y z : D) (ρ : Rho) (A : Rho → Prop) : gT [i, j, k] (.tup [x, y, z]) ρ A = A (((ρ.set i (.d x)).set j (.d y)).set k (.d z)) := by
  apply propext
  unfold gT
  constructor
  · rintro ⟨xs, e, _, h⟩
    cases e
    exact h
  · exact fun h => ⟨_, rfl, rfl, h⟩
theorem okD_int (i : Int) : okD (.int i) = true := rfl
theorem okD_bl (b : Bool) : okD (.bl b) = true := rfl
theorem okD_non : okD .non = true := rfl
theorem okD_tup0 : okD (.tup []) = true := rfl
theorem okD_lst0 : okD (.lst []) = true := rfl
theorem eqD_int (a b : Int) : eqD (.int a) (.int b) = decide (a = b) := by
  unfold eqD
  by_cases h : a = b
  · subst h; simp
  · rw [decide_eq_false h, beq_false_of_ne h]
theorem eqD_bl (a b : Bool) : eqD (.bl a) (.bl b) = decide (a = b) := by cases a <;> cases b <;> rfl
theorem eqD_tupS (xs ys : List Str) : eqD (.tup (xs.map D.str)) (.tup (ys.map D.str)) = decide (xs = ys) := eqL_strs xs ys
theorem eqD_lstS (xs ys : List Str) : eqD (.lst (xs.map D.str)) (.lst (ys.map D.str)) = decide (xs = ys) := eqL_strs xs ys
/-! ### repr of texts in a row -/
theorem rpL_strs (lf nd : Bool) : ∀ ms : List Str, rpL lf nd (ms.map D.str) = true
  | [] => rfl
  | m :: ms => by
    rw [List.map_cons]
    unfold rpL
    rw [rpL_strs lf nd ms]
    rfl
theorem toPL_strs : ∀ ms : List Str, toPL (ms.map D.str) = ms.map PyData.str
  | [] => rfl
  | m :: ms => by
    rw [List.map_cons, List.map_cons]
    unfold toPL
    rw [toPL_strs ms]
    rfl
theorem showable_strs : ∀ ms : List Str, PyData.showableAll (ms.map PyData.str) = true
  | [] => rfl
  | m :: ms => by
    rw [List.map_cons]
    unfold PyData.showableAll
    rw [showable_strs ms]
    rfl
theorem depth_strs : ∀ ms : List Str, PyData.depthAll (ms.map PyData.str) = 0
  | [] => rfl
  | m :: ms => by
    rw [List.map_cons]
    unfold PyData.depthAll
    rw [depth_strs ms]
    rfl
theorem shown_strs : ∀ ms : List Str, PyData.shownAll (ms.map PyData.str) = ms.map reprText
  | [] => rfl
  | m :: ms => by
    rw [List.map_cons, List.map_cons]
    unfold PyData.shownAll
    rw [shown_strs ms]
    rfl
theorem okR_tupS (ms : List Str) : okR (.tup (ms.map D.str)) = true := by
  have e1 : rpD true false (.tup (ms.map D.str)) = true := rpL_strs _ _ _
  have e2 : (toP (.tup (ms.map D.str))).showable = true := by
    show PyData.showableAll (toPL (ms.map D.str)) = true
    rw [toPL_strs]
    exact showable_strs ms
  have e3 : (toP (.tup (ms.map D.str))).depth = 1 := by
    show PyData.depthAll (toPL (ms.map D.str)) + 1 = 1
    rw [toPL_strs, depth_strs]
  unfold okR
  rw [e1, e2, e3]
  rfl
theorem okR_two (s : Str) (ms : List Str) : okR (.tup [.str s, .tup (ms.map D.str)]) = true := by
  have e1 : rpD true false (.tup [.str s, .tup (ms.map D.str)]) = true := by
    show (true && (rpL true false (ms.map D.str) && true)) = true
    rw [rpL_strs]
    rfl
  have e2 : (toP (.tup [.str s, .tup (ms.map D.str)])).showable = true := by
    show (true && (PyData.showableAll (toPL (ms.map D.str)) && true)) = true
    rw [toPL_strs, showable_strs]
    rfl
  have e3 : (toP (.tup [.str s, .tup (ms.map D.str)])).depth = 2 := by
    show max 0 (max (PyData.depthAll (toPL (ms.map D.str)) + 1) 0) + 1 = 2
    rw [toPL_strs, depth_strs]
    rfl
  unfold okR
  rw [e1, e2, e3]
  rfl
theorem shD_tupS (ms : List Str) : shD (.tup (ms.map D.str)) = tupleText (ms.map reprText) := by
  show tupleText (PyData.shownAll (toPL (ms.map D.str))) = _
  rw [toPL_strs, shown_strs]
theorem shD_two (s : Str) (ms : List Str) : shD (.tup [.str s, .tup (ms.map D.str)]) = tupleText [reprText s, tupleText (ms.map reprText)] := by
  show tupleText [reprText s, tupleText (PyData.shownAll (toPL (ms.map D.str)))] = _
  rw [toPL_strs, shown_strs]
theorem sum_leL {b : Nat} : ∀ {l : List Str}, (∀ z ∈ l, z.length ≤ b) → (l.map (·.length)).sum ≤ b * l.length
  | [], _ => by simp
  | x :: l, h => by
    have h1 := h x List.mem_cons_self
    have h2 := sum_leL fun z hz => h z (List.mem_cons_of_mem _ hz)
    simp only [List.map_cons, List.sum_cons, List.length_cons]
    rw [Nat.mul_succ]
    omega
theorem shD_tupS_len {ms : List Str} {b : Nat} (h : ∀ m ∈ ms, (reprText m).length ≤ b) : (cs (shD (.tup (ms.map D.str)))).length ≤ (b + 2) * ms.length + 3 := by
  rw [shD_tupS, ← cs_len]
  have h1 := tupleText_len_le (ms.map reprText)
  have h2 := sum_leL (l := ms.map reprText) (b := b) fun z hz => by
    obtain ⟨m, hm, rfl⟩ := List.mem_map.mp hz
    exact h m hm
  rw [List.length_map] at h1 h2
  rw [Nat.add_mul]
  omega
theorem shD_two_len {s : Str} {ms : List Str} {b c : Nat} (hs : (reprText s).length ≤ c) (h : ∀ m ∈ ms, (reprText m).length ≤ b) : (cs (shD (.tup [.str s, .tup (ms.map D.str)]))).length ≤ c + (b + 2) * ms.length + 10 := by
  rw [shD_two, ← cs_len]
  have h1 := tupleText_len_le [reprText s, tupleText (ms.map reprText)]
  have h2 := shD_tupS_len h
  rw [shD_tupS, ← cs_len] at h2
  simp only [List.map_cons, List.map_nil, List.sum_cons, List.sum_nil, List.length_cons, List.length_nil] at h1
  omega
end Ab

set_option Elab.async false
set_option linter.all false
set_option maxRecDepth 100000
set_option maxHeartbeats 4000000
namespace L12
open PySem PySem.Spec PyProof.Rows L2 Ab
def top (i : Nat) : Stmt := PySem.Challenge.pw_aboveless_k12_labels_made_and_read.main.body.getD i (.Pass ⟨0, 0, 0, 0⟩)
abbrev s_is_name : Stmt := top 11
abbrev N_is_name : List Str := ["value", "letter"]
theorem sc_is_name : FnScope N_is_name ["value"] (defScope s_is_name) :=
  ⟨rfl, rfl, rfl, by decide +kernel, rfl, by decide +kernel, by decide +kernel⟩
def d_is_name : He.DefD := ⟨("is_name", none), "is_name", "is_name", defArgs s_is_name, defBody s_is_name, defScope s_is_name, [], []⟩
theorem b_is_name {K : PySem.W.Frag} : ∀ fd, FunD K d_is_name.name d_is_name.qual d_is_name.params d_is_name.body d_is_name.scope (d_is_name.dvs K) (d_is_name.kws K) (He.fAd K d_is_name.at_) fd → Bw K fd ["value"] 1 [] gPos :=
  fun fd F => bw_pos F 1 rfl (fun _ _ _ _ _ _ us hl => match us, hl with | [_], _ => rfl)
abbrev s_want_label : Stmt := top 15
abbrev N_want_label : List Str := ["value"]
theorem sc_want_label : FnScope N_want_label ["value"] (defScope s_want_label) :=
  ⟨rfl, rfl, rfl, by decide +kernel, rfl, by decide +kernel, by decide +kernel⟩
def d_want_label : He.DefD := ⟨("want_label", none), "want_label", "want_label", defArgs s_want_label, defBody s_want_label, defScope s_want_label, [], []⟩
theorem b_want_label {K : PySem.W.Frag} : ∀ fd, FunD K d_want_label.name d_want_label.qual d_want_label.params d_want_label.body d_want_label.scope (d_want_label.dvs K) (d_want_label.kws K) (He.fAd K d_want_label.at_) fd → Bw K fd ["value"] 1 [] gPos :=
  fun fd F => bw_pos F 1 rfl (fun _ _ _ _ _ _ us hl => match us, hl with | [_], _ => rfl)
abbrev s_marks_in_order : Stmt := top 16
abbrev N_marks_in_order : List Str := ["marks", "found", "mark"]
theorem sc_marks_in_order : FnScope N_marks_in_order ["marks"] (defScope s_marks_in_order) :=
  ⟨rfl, rfl, rfl, by decide +kernel, rfl, by decide +kernel, by decide +kernel⟩
def d_marks_in_order : He.DefD := ⟨("marks_in_order", none), "marks_in_order", "marks_in_order", defArgs s_marks_in_order, defBody s_marks_in_order, defScope s_marks_in_order, [], []⟩
theorem b_marks_in_order {K : PySem.W.Frag} : ∀ fd, FunD K d_marks_in_order.name d_marks_in_order.qual d_marks_in_order.params d_marks_in_order.body d_marks_in_order.scope (d_marks_in_order.dvs K) (d_marks_in_order.kws K) (He.fAd K d_marks_in_order.at_) fd → Bw K fd ["marks"] 1 [] gPos :=
  fun fd F => bw_pos F 1 rfl (fun _ _ _ _ _ _ us hl => match us, hl with | [_], _ => rfl)
abbrev s_Label_init : Stmt := inClass (top 17) 1
abbrev N_Label_init : List Str := ["self", "marks", "kept"]
theorem sc_Label_init : FnScope N_Label_init ["self", "marks"] (defScope s_Label_init) :=
  ⟨rfl, rfl, rfl, by decide +kernel, rfl, by decide +kernel, by decide +kernel⟩
def d_Label_init : He.DefD := ⟨("Label", some "__init__"), "__init__", "Label.__init__", defArgs s_Label_init, defBody s_Label_init, defScope s_Label_init, [], []⟩
abbrev s_Label_or : Stmt := inClass (top 17) 6
abbrev N_Label_or : List Str := ["self", "other", "found"]
theorem sc_Label_or : FnScope N_Label_or ["self", "other"] (defScope s_Label_or) :=
  ⟨rfl, rfl, rfl, by decide +kernel, rfl, by decide +kernel, by decide +kernel⟩
def d_Label_or : He.DefD := ⟨("Label", some "__or__"), "__or__", "Label.__or__", defArgs s_Label_or, defBody s_Label_or, defScope s_Label_or, [], []⟩
theorem b_Label_or {K : PySem.W.Frag} : ∀ fd, FunD K d_Label_or.name d_Label_or.qual d_Label_or.params d_Label_or.body d_Label_or.scope (d_Label_or.dvs K) (d_Label_or.kws K) (He.fAd K d_Label_or.at_) fd → Bw K fd ["self", "other"] 2 [] gPos :=
  fun fd F => bw_pos F 2 rfl (fun _ _ _ _ _ _ us hl => match us, hl with | [_, _], _ => rfl)
abbrev s_Label_and : Stmt := inClass (top 17) 7
abbrev N_Label_and : List Str := ["self", "other", "found", "mark"]
theorem sc_Label_and : FnScope N_Label_and ["self", "other"] (defScope s_Label_and) :=
  ⟨rfl, rfl, rfl, by decide +kernel, rfl, by decide +kernel, by decide +kernel⟩
def d_Label_and : He.DefD := ⟨("Label", some "__and__"), "__and__", "Label.__and__", defArgs s_Label_and, defBody s_Label_and, defScope s_Label_and, [], []⟩
theorem b_Label_and {K : PySem.W.Frag} : ∀ fd, FunD K d_Label_and.name d_Label_and.qual d_Label_and.params d_Label_and.body d_Label_and.scope (d_Label_and.dvs K) (d_Label_and.kws K) (He.fAd K d_Label_and.at_) fd → Bw K fd ["self", "other"] 2 [] gPos :=
  fun fd F => bw_pos F 2 rfl (fun _ _ _ _ _ _ us hl => match us, hl with | [_, _], _ => rfl)
abbrev s_Label_contains : Stmt := inClass (top 17) 8
abbrev N_Label_contains : List Str := ["self", "mark"]
theorem sc_Label_contains : FnScope N_Label_contains ["self", "mark"] (defScope s_Label_contains) :=
  ⟨rfl, rfl, rfl, by decide +kernel, rfl, by decide +kernel, by decide +kernel⟩
def d_Label_contains : He.DefD := ⟨("Label", some "__contains__"), "__contains__", "Label.__contains__", defArgs s_Label_contains, defBody s_Label_contains, defScope s_Label_contains, [], []⟩
theorem b_Label_contains {K : PySem.W.Frag} : ∀ fd, FunD K d_Label_contains.name d_Label_contains.qual d_Label_contains.params d_Label_contains.body d_Label_contains.scope (d_Label_contains.dvs K) (d_Label_contains.kws K) (He.fAd K d_Label_contains.at_) fd → Bw K fd ["self", "mark"] 2 [] gPos :=
  fun fd F => bw_pos F 2 rfl (fun _ _ _ _ _ _ us hl => match us, hl with | [_, _], _ => rfl)
abbrev s_Label_len : Stmt := inClass (top 17) 9
abbrev N_Label_len : List Str := ["self"]
theorem sc_Label_len : FnScope N_Label_len ["self"] (defScope s_Label_len) :=
  ⟨rfl, rfl, rfl, by decide +kernel, rfl, by decide +kernel, by decide +kernel⟩
def d_Label_len : He.DefD := ⟨("Label", some "__len__"), "__len__", "Label.__len__", defArgs s_Label_len, defBody s_Label_len, defScope s_Label_len, [], []⟩
theorem b_Label_len {K : PySem.W.Frag} : ∀ fd, FunD K d_Label_len.name d_Label_len.qual d_Label_len.params d_Label_len.body d_Label_len.scope (d_Label_len.dvs K) (d_Label_len.kws K) (He.fAd K d_Label_len.at_) fd → Bw K fd ["self"] 1 [] gPos :=
  fun fd F => bw_pos F 1 rfl (fun _ _ _ _ _ _ us hl => match us, hl with | [_], _ => rfl)
abbrev s_Label_str : Stmt := inClass (top 17) 10
abbrev N_Label_str : List Str := ["self"]
theorem sc_Label_str : FnScope N_Label_str ["self"] (defScope s_Label_str) :=
  ⟨rfl, rfl, rfl, by decide +kernel, rfl, by decide +kernel, by decide +kernel⟩
def d_Label_str : He.DefD := ⟨("Label", some "__str__"), "__str__", "Label.__str__", defArgs s_Label_str, defBody s_Label_str, defScope s_Label_str, [], []⟩
theorem b_Label_str {K : PySem.W.Frag} : ∀ fd, FunD K d_Label_str.name d_Label_str.qual d_Label_str.params d_Label_str.body d_Label_str.scope (d_Label_str.dvs K) (d_Label_str.kws K) (He.fAd K d_Label_str.at_) fd → Bw K fd ["self"] 1 [] gPos :=
  fun fd F => bw_pos F 1 rfl (fun _ _ _ _ _ _ us hl => match us, hl with | [_], _ => rfl)
abbrev s_Label_repr : Stmt := inClass (top 17) 11
abbrev N_Label_repr : List Str := ["self", "marks", "mark"]
theorem sc_Label_repr : FnScope N_Label_repr ["self"] (defScope s_Label_repr) :=
  ⟨rfl, rfl, rfl, by decide +kernel, rfl, by decide +kernel, by decide +kernel⟩
def d_Label_repr : He.DefD := ⟨("Label", some "__repr__"), "__repr__", "Label.__repr__", defArgs s_Label_repr, defBody s_Label_repr, defScope s_Label_repr, [], []⟩
theorem b_Label_repr {K : PySem.W.Frag} : ∀ fd, FunD K d_Label_repr.name d_Label_repr.qual d_Label_repr.params d_Label_repr.body d_Label_repr.scope (d_Label_repr.dvs K) (d_Label_repr.kws K) (He.fAd K d_Label_repr.at_) fd → Bw K fd ["self"] 1 [] gPos :=
  fun fd F => bw_pos F 1 rfl (fun _ _ _ _ _ _ us hl => match us, hl with | [_], _ => rfl)
abbrev s_Label_eq : Stmt := inClass (top 17) 12
abbrev N_Label_eq : List Str := ["self", "other"]
theorem sc_Label_eq : FnScope N_Label_eq ["self", "other"] (defScope s_Label_eq) :=
  ⟨rfl, rfl, rfl, by decide +kernel, rfl, by decide +kernel, by decide +kernel⟩
def d_Label_eq : He.DefD := ⟨("Label", some "__eq__"), "__eq__", "Label.__eq__", defArgs s_Label_eq, defBody s_Label_eq, defScope s_Label_eq, [], []⟩
theorem b_Label_eq {K : PySem.W.Frag} : ∀ fd, FunD K d_Label_eq.name d_Label_eq.qual d_Label_eq.params d_Label_eq.body d_Label_eq.scope (d_Label_eq.dvs K) (d_Label_eq.kws K) (He.fAd K d_Label_eq.at_) fd → Bw K fd ["self", "other"] 2 [] gPos :=
  fun fd F => bw_pos F 2 rfl (fun _ _ _ _ _ _ us hl => match us, hl with | [_, _], _ => rfl)
abbrev s_law_rng : Stmt := top 19
abbrev N_law_rng : List Str := ["_law_script", "_law_k", "_law_cell"]
theorem sc_law_rng : FnScope N_law_rng ["_law_script", "_law_k"] (defScope s_law_rng) :=
  ⟨rfl, rfl, rfl, by decide +kernel, rfl, by decide +kernel, by decide +kernel⟩
def d_law_rng : He.DefD := ⟨("_law_rng", none), "_law_rng", "_law_rng", defArgs s_law_rng, defBody s_law_rng, defScope s_law_rng, [], []⟩
theorem b_law_rng {K : PySem.W.Frag} : ∀ fd, FunD K d_law_rng.name d_law_rng.qual d_law_rng.params d_law_rng.body d_law_rng.scope (d_law_rng.dvs K) (d_law_rng.kws K) (He.fAd K d_law_rng.at_) fd → Bw K fd ["_law_script", "_law_k"] 2 [] gPos :=
  fun fd F => bw_pos F 2 rfl (fun _ _ _ _ _ _ us hl => match us, hl with | [_, _], _ => rfl)
abbrev s_law_draw : Stmt := top 20
abbrev N_law_draw : List Str := ["_law_rng_here", "_law_many", "_law_digit"]
theorem sc_law_draw : FnScope N_law_draw ["_law_rng_here", "_law_many"] (defScope s_law_draw) :=
  ⟨rfl, rfl, rfl, by decide +kernel, rfl, by decide +kernel, by decide +kernel⟩
def d_law_draw : He.DefD := ⟨("_law_draw", none), "_law_draw", "_law_draw", defArgs s_law_draw, defBody s_law_draw, defScope s_law_draw, [], []⟩
theorem b_law_draw {K : PySem.W.Frag} : ∀ fd, FunD K d_law_draw.name d_law_draw.qual d_law_draw.params d_law_draw.body d_law_draw.scope (d_law_draw.dvs K) (d_law_draw.kws K) (He.fAd K d_law_draw.at_) fd → Bw K fd ["_law_rng_here", "_law_many"] 2 [] gPos :=
  fun fd F => bw_pos F 2 rfl (fun _ _ _ _ _ _ us hl => match us, hl with | [_, _], _ => rfl)
abbrev s_law_choice : Stmt := top 21
abbrev N_law_choice : List Str := ["_law_rng_here", "_law_options"]
theorem sc_law_choice : FnScope N_law_choice ["_law_rng_here", "_law_options"] (defScope s_law_choice) :=
  ⟨rfl, rfl, rfl, by decide +kernel, rfl, by decide +kernel, by decide +kernel⟩
def d_law_choice : He.DefD := ⟨("_law_choice", none), "_law_choice", "_law_choice", defArgs s_law_choice, defBody s_law_choice, defScope s_law_choice, [], []⟩
theorem b_law_choice {K : PySem.W.Frag} : ∀ fd, FunD K d_law_choice.name d_law_choice.qual d_law_choice.params d_law_choice.body d_law_choice.scope (d_law_choice.dvs K) (d_law_choice.kws K) (He.fAd K d_law_choice.at_) fd → Bw K fd ["_law_rng_here", "_law_options"] 2 [] gPos :=
  fun fd F => bw_pos F 2 rfl (fun _ _ _ _ _ _ us hl => match us, hl with | [_, _], _ => rfl)
abbrev s_law_is_name : Stmt := top 22
abbrev N_law_is_name : List Str := ["_law_thing", "_law_letters", "_law_sign"]
theorem sc_law_is_name : FnScope N_law_is_name ["_law_thing"] (defScope s_law_is_name) :=
  ⟨rfl, rfl, rfl, by decide +kernel, rfl, by decide +kernel, by decide +kernel⟩
def d_law_is_name : He.DefD := ⟨("_law_is_name", none), "_law_is_name", "_law_is_name", defArgs s_law_is_name, defBody s_law_is_name, defScope s_law_is_name, [], []⟩
theorem b_law_is_name {K : PySem.W.Frag} : ∀ fd, FunD K d_law_is_name.name d_law_is_name.qual d_law_is_name.params d_law_is_name.body d_law_is_name.scope (d_law_is_name.dvs K) (d_law_is_name.kws K) (He.fAd K d_law_is_name.at_) fd → Bw K fd ["_law_thing"] 1 [] gPos :=
  fun fd F => bw_pos F 1 rfl (fun _ _ _ _ _ _ us hl => match us, hl with | [_], _ => rfl)
abbrev s_law_mark : Stmt := top 23
abbrev N_law_mark : List Str := ["_law_rng_here", "_law_pool_here", "_law_odd"]
theorem sc_law_mark : FnScope N_law_mark ["_law_rng_here", "_law_pool_here"] (defScope s_law_mark) :=
  ⟨rfl, rfl, rfl, by decide +kernel, rfl, by decide +kernel, by decide +kernel⟩
def d_law_mark : He.DefD := ⟨("_law_mark", none), "_law_mark", "_law_mark", defArgs s_law_mark, defBody s_law_mark, defScope s_law_mark, [], []⟩
theorem b_law_mark {K : PySem.W.Frag} : ∀ fd, FunD K d_law_mark.name d_law_mark.qual d_law_mark.params d_law_mark.body d_law_mark.scope (d_law_mark.dvs K) (d_law_mark.kws K) (He.fAd K d_law_mark.at_) fd → Bw K fd ["_law_rng_here", "_law_pool_here"] 2 [] gPos :=
  fun fd F => bw_pos F 2 rfl (fun _ _ _ _ _ _ us hl => match us, hl with | [_, _], _ => rfl)
abbrev s_law_pool : Stmt := top 24
abbrev N_law_pool : List Str := ["_law_rng_here", "_law_first", "_law_pool_here", "_law_found", "_law_turn", "_law_one"]
theorem sc_law_pool : FnScope N_law_pool ["_law_rng_here"] (defScope s_law_pool) :=
  ⟨rfl, rfl, rfl, by decide +kernel, rfl, by decide +kernel, by decide +kernel⟩
def d_law_pool : He.DefD := ⟨("_law_pool", none), "_law_pool", "_law_pool", defArgs s_law_pool, defBody s_law_pool, defScope s_law_pool, [], []⟩
theorem b_law_pool {K : PySem.W.Frag} : ∀ fd, FunD K d_law_pool.name d_law_pool.qual d_law_pool.params d_law_pool.body d_law_pool.scope (d_law_pool.dvs K) (d_law_pool.kws K) (He.fAd K d_law_pool.at_) fd → Bw K fd ["_law_rng_here"] 1 [] gPos :=
  fun fd F => bw_pos F 1 rfl (fun _ _ _ _ _ _ us hl => match us, hl with | [_], _ => rfl)
abbrev s_law_label : Stmt := top 25
abbrev N_law_label : List Str := ["_law_marks"]
theorem sc_law_label : FnScope N_law_label ["_law_marks"] (defScope s_law_label) :=
  ⟨rfl, rfl, rfl, by decide +kernel, rfl, by decide +kernel, by decide +kernel⟩
def d_law_label : He.DefD := ⟨("_law_label", none), "_law_label", "_law_label", defArgs s_law_label, defBody s_law_label, defScope s_law_label, [], []⟩
theorem b_law_label {K : PySem.W.Frag} : ∀ fd, FunD K d_law_label.name d_law_label.qual d_law_label.params d_law_label.body d_law_label.scope (d_law_label.dvs K) (d_law_label.kws K) (He.fAd K d_law_label.at_) fd → Bw K fd ["_law_marks"] 1 [] gPos :=
  fun fd F => bw_pos F 1 rfl (fun _ _ _ _ _ _ us hl => match us, hl with | [_], _ => rfl)
abbrev s_law_due : Stmt := top 26
abbrev N_law_due : List Str := ["_law_marks", "_law_mark_here", "_law_found"]
theorem sc_law_due : FnScope N_law_due ["_law_marks"] (defScope s_law_due) :=
  ⟨rfl, rfl, rfl, by decide +kernel, rfl, by decide +kernel, by decide +kernel⟩
def d_law_due : He.DefD := ⟨("_law_due", none), "_law_due", "_law_due", defArgs s_law_due, defBody s_law_due, defScope s_law_due, [], []⟩
theorem b_law_due {K : PySem.W.Frag} : ∀ fd, FunD K d_law_due.name d_law_due.qual d_law_due.params d_law_due.body d_law_due.scope (d_law_due.dvs K) (d_law_due.kws K) (He.fAd K d_law_due.at_) fd → Bw K fd ["_law_marks"] 1 [] gPos :=
  fun fd F => bw_pos F 1 rfl (fun _ _ _ _ _ _ us hl => match us, hl with | [_], _ => rfl)
abbrev s_law_told : Stmt := top 27
abbrev N_law_told : List Str := ["_law_marks", "_law_told_here", "e"]
theorem sc_law_told : FnScope N_law_told ["_law_marks"] (defScope s_law_told) :=
  ⟨rfl, rfl, rfl, by decide +kernel, rfl, by decide +kernel, by decide +kernel⟩
def d_law_told : He.DefD := ⟨("_law_told", none), "_law_told", "_law_told", defArgs s_law_told, defBody s_law_told, defScope s_law_told, [], []⟩
theorem b_law_told {K : PySem.W.Frag} : ∀ fd, FunD K d_law_told.name d_law_told.qual d_law_told.params d_law_told.body d_law_told.scope (d_law_told.dvs K) (d_law_told.kws K) (He.fAd K d_law_told.at_) fd → Bw K fd ["_law_marks"] 1 [] gPos :=
  fun fd F => bw_pos F 1 rfl (fun _ _ _ _ _ _ us hl => match us, hl with | [_], _ => rfl)
abbrev s_law_read : Stmt := top 28
abbrev N_law_read : List Str := ["_law_thing", "_law_told_here", "e"]
theorem sc_law_read : FnScope N_law_read ["_law_thing"] (defScope s_law_read) :=
  ⟨rfl, rfl, rfl, by decide +kernel, rfl, by decide +kernel, by decide +kernel⟩
def d_law_read : He.DefD := ⟨("_law_read", none), "_law_read", "_law_read", defArgs s_law_read, defBody s_law_read, defScope s_law_read, [], []⟩
theorem b_law_read {K : PySem.W.Frag} : ∀ fd, FunD K d_law_read.name d_law_read.qual d_law_read.params d_law_read.body d_law_read.scope (d_law_read.dvs K) (d_law_read.kws K) (He.fAd K d_law_read.at_) fd → Bw K fd ["_law_thing"] 1 [] gPos :=
  fun fd F => bw_pos F 1 rfl (fun _ _ _ _ _ _ us hl => match us, hl with | [_], _ => rfl)
abbrev s_law_read_due : Stmt := top 29
abbrev N_law_read_due : List Str := ["_law_thing", "_law_marks", "_law_mark_here"]
theorem sc_law_read_due : FnScope N_law_read_due ["_law_thing"] (defScope s_law_read_due) :=
  ⟨rfl, rfl, rfl, by decide +kernel, rfl, by decide +kernel, by decide +kernel⟩
def d_law_read_due : He.DefD := ⟨("_law_read_due", none), "_law_read_due", "_law_read_due", defArgs s_law_read_due, defBody s_law_read_due, defScope s_law_read_due, [], []⟩
theorem b_law_read_due {K : PySem.W.Frag} : ∀ fd, FunD K d_law_read_due.name d_law_read_due.qual d_law_read_due.params d_law_read_due.body d_law_read_due.scope (d_law_read_due.dvs K) (d_law_read_due.kws K) (He.fAd K d_law_read_due.at_) fd → Bw K fd ["_law_thing"] 1 [] gPos :=
  fun fd F => bw_pos F 1 rfl (fun _ _ _ _ _ _ us hl => match us, hl with | [_], _ => rfl)
abbrev s_law_text : Stmt := top 30
abbrev N_law_text : List Str := ["_law_marks"]
theorem sc_law_text : FnScope N_law_text ["_law_marks"] (defScope s_law_text) :=
  ⟨rfl, rfl, rfl, by decide +kernel, rfl, by decide +kernel, by decide +kernel⟩
def d_law_text : He.DefD := ⟨("_law_text", none), "_law_text", "_law_text", defArgs s_law_text, defBody s_law_text, defScope s_law_text, [], []⟩
theorem b_law_text {K : PySem.W.Frag} : ∀ fd, FunD K d_law_text.name d_law_text.qual d_law_text.params d_law_text.body d_law_text.scope (d_law_text.dvs K) (d_law_text.kws K) (He.fAd K d_law_text.at_) fd → Bw K fd ["_law_marks"] 1 [] gPos :=
  fun fd F => bw_pos F 1 rfl (fun _ _ _ _ _ _ us hl => match us, hl with | [_], _ => rfl)
abbrev s_law_spoilt : Stmt := top 31
abbrev N_law_spoilt : List Str := ["_law_rng_here", "_law_text_here", "_law_turn", "_law_at", "_law_way", "_law_marks", "_law_sign"]
theorem sc_law_spoilt : FnScope N_law_spoilt ["_law_rng_here", "_law_text_here"] (defScope s_law_spoilt) :=
  ⟨rfl, rfl, rfl, by decide +kernel, rfl, by decide +kernel, by decide +kernel⟩
def d_law_spoilt : He.DefD := ⟨("_law_spoilt", none), "_law_spoilt", "_law_spoilt", defArgs s_law_spoilt, defBody s_law_spoilt, defScope s_law_spoilt, [], []⟩
theorem b_law_spoilt {K : PySem.W.Frag} : ∀ fd, FunD K d_law_spoilt.name d_law_spoilt.qual d_law_spoilt.params d_law_spoilt.body d_law_spoilt.scope (d_law_spoilt.dvs K) (d_law_spoilt.kws K) (He.fAd K d_law_spoilt.at_) fd → Bw K fd ["_law_rng_here", "_law_text_here"] 2 [] gPos :=
  fun fd F => bw_pos F 2 rfl (fun _ _ _ _ _ _ us hl => match us, hl with | [_, _], _ => rfl)
abbrev s_law_same : Stmt := top 32
abbrev N_law_same : List Str := ["_law_one", "_law_other"]
theorem sc_law_same : FnScope N_law_same ["_law_one", "_law_other"] (defScope s_law_same) :=
  ⟨rfl, rfl, rfl, by decide +kernel, rfl, by decide +kernel, by decide +kernel⟩
def d_law_same : He.DefD := ⟨("_law_same", none), "_law_same", "_law_same", defArgs s_law_same, defBody s_law_same, defScope s_law_same, [], []⟩
theorem b_law_same {K : PySem.W.Frag} : ∀ fd, FunD K d_law_same.name d_law_same.qual d_law_same.params d_law_same.body d_law_same.scope (d_law_same.dvs K) (d_law_same.kws K) (He.fAd K d_law_same.at_) fd → Bw K fd ["_law_one", "_law_other"] 2 [] gPos :=
  fun fd F => bw_pos F 2 rfl (fun _ _ _ _ _ _ us hl => match us, hl with | [_, _], _ => rfl)
abbrev s_law_unlike : Stmt := top 33
abbrev N_law_unlike : List Str := ["_law_one", "_law_other"]
theorem sc_law_unlike : FnScope N_law_unlike ["_law_one", "_law_other"] (defScope s_law_unlike) :=
  ⟨rfl, rfl, rfl, by decide +kernel, rfl, by decide +kernel, by decide +kernel⟩
def d_law_unlike : He.DefD := ⟨("_law_unlike", none), "_law_unlike", "_law_unlike", defArgs s_law_unlike, defBody s_law_unlike, defScope s_law_unlike, [], []⟩
theorem b_law_unlike {K : PySem.W.Frag} : ∀ fd, FunD K d_law_unlike.name d_law_unlike.qual d_law_unlike.params d_law_unlike.body d_law_unlike.scope (d_law_unlike.dvs K) (d_law_unlike.kws K) (He.fAd K d_law_unlike.at_) fd → Bw K fd ["_law_one", "_law_other"] 2 [] gPos :=
  fun fd F => bw_pos F 2 rfl (fun _ _ _ _ _ _ us hl => match us, hl with | [_, _], _ => rfl)
abbrev s_law_label_right : Stmt := top 34
abbrev N_law_label_right : List Str := ["_law_rng_here", "_law_marks", "_law_due_here", "_law_made", "_law_text_here", "_law_shown", "_law_again", "_law_others", "_law_things", "_law_found", "_law_thing", "_law_other", "_law_turn", "_law_mark_here"]
theorem sc_law_label_right : FnScope N_law_label_right ["_law_rng_here", "_law_marks", "_law_due_here"] (defScope s_law_label_right) :=
  ⟨rfl, rfl, rfl, by decide +kernel, rfl, by decide +kernel, by decide +kernel⟩
def d_law_label_right : He.DefD := ⟨("_law_label_right", none), "_law_label_right", "_law_label_right", defArgs s_law_label_right, defBody s_law_label_right, defScope s_law_label_right, [], []⟩
theorem b_law_label_right {K : PySem.W.Frag} : ∀ fd, FunD K d_law_label_right.name d_law_label_right.qual d_law_label_right.params d_law_label_right.body d_law_label_right.scope (d_law_label_right.dvs K) (d_law_label_right.kws K) (He.fAd K d_law_label_right.at_) fd → Bw K fd ["_law_rng_here", "_law_marks", "_law_due_here"] 3 [] gPos :=
  fun fd F => bw_pos F 3 rfl (fun _ _ _ _ _ _ us hl => match us, hl with | [_, _, _], _ => rfl)
abbrev s_law_right : Stmt := top 35
abbrev N_law_right : List Str := ["_law_rng_here", "_law_pool_here", "_law_turn", "_law_marks", "_law_due_here", "_law_clean", "_law_thing", "_law_mark_here"]
theorem sc_law_right : FnScope N_law_right ["_law_rng_here"] (defScope s_law_right) :=
  ⟨rfl, rfl, rfl, by decide +kernel, rfl, by decide +kernel, by decide +kernel⟩
def d_law_right : He.DefD := ⟨("_law_right", none), "_law_right", "_law_right", defArgs s_law_right, defBody s_law_right, defScope s_law_right, [], []⟩
theorem b_law_right {K : PySem.W.Frag} : ∀ fd, FunD K d_law_right.name d_law_right.qual d_law_right.params d_law_right.body d_law_right.scope (d_law_right.dvs K) (d_law_right.kws K) (He.fAd K d_law_right.at_) fd → Bw K fd ["_law_rng_here"] 1 [] gPos :=
  fun fd F => bw_pos F 1 rfl (fun _ _ _ _ _ _ us hl => match us, hl with | [_], _ => rfl)
abbrev s_law : Stmt := top 36
abbrev N_law : List Str := ["_law_script", "_law_k"]
theorem sc_law : FnScope N_law ["_law_script"] (defScope s_law) :=
  ⟨rfl, rfl, rfl, by decide +kernel, rfl, by decide +kernel, by decide +kernel⟩
def d_law : He.DefD := ⟨("law", none), "law", "law", defArgs s_law, defBody s_law, defScope s_law, [], []⟩
theorem b_law {K : PySem.W.Frag} : ∀ fd, FunD K d_law.name d_law.qual d_law.params d_law.body d_law.scope (d_law.dvs K) (d_law.kws K) (He.fAd K d_law.at_) fd → Bw K fd ["_law_script"] 1 [] gPos :=
  fun fd F => bw_pos F 1 rfl (fun _ _ _ _ _ _ us hl => match us, hl with | [_], _ => rfl)
abbrev s_InvalidName_init : Stmt := inClass (top 3) 0
abbrev N_InvalidName_init : List Str := ["self", "value"]
theorem sc_InvalidName_init : IScope N_InvalidName_init ["self", "value"] (defScope s_InvalidName_init) :=
  ⟨rfl, rfl, rfl, by decide +kernel, rfl, by decide +kernel, by decide +kernel, by decide +kernel, rfl, rfl⟩
def d_InvalidName_init : He.DefD := ⟨("InvalidName", some "__init__"), "__init__", "InvalidName.__init__", defArgs s_InvalidName_init, defBody s_InvalidName_init, defScope s_InvalidName_init, [], []⟩
def xB_InvalidName (K : PySem.W.Frag) : Bool := xclsB bVE K (He.ga K "InvalidName") && (excB K (He.ga K "InvalidName") && xfunB K d_InvalidName_init (He.ga K "InvalidName"))
abbrev s_InvalidText_init : Stmt := inClass (top 5) 0
abbrev N_InvalidText_init : List Str := ["self", "problem"]
theorem sc_InvalidText_init : IScope N_InvalidText_init ["self", "problem"] (defScope s_InvalidText_init) :=
  ⟨rfl, rfl, rfl, by decide +kernel, rfl, by decide +kernel, by decide +kernel, by decide +kernel, rfl, rfl⟩
def d_InvalidText_init : He.DefD := ⟨("InvalidText", some "__init__"), "__init__", "InvalidText.__init__", defArgs s_InvalidText_init, defBody s_InvalidText_init, defScope s_InvalidText_init, [], []⟩
def xB_InvalidText (K : PySem.W.Frag) : Bool := xclsB bVE K (He.ga K "InvalidText") && (excB K (He.ga K "InvalidText") && xfunB K d_InvalidText_init (He.ga K "InvalidText"))
abbrev s_TooMany_init : Stmt := inClass (top 7) 0
abbrev N_TooMany_init : List Str := ["self", "kind", "limit"]
theorem sc_TooMany_init : IScope N_TooMany_init ["self", "kind", "limit"] (defScope s_TooMany_init) :=
  ⟨rfl, rfl, rfl, by decide +kernel, rfl, by decide +kernel, by decide +kernel, by decide +kernel, rfl, rfl⟩
def d_TooMany_init : He.DefD := ⟨("TooMany", some "__init__"), "__init__", "TooMany.__init__", defArgs s_TooMany_init, defBody s_TooMany_init, defScope s_TooMany_init, [], []⟩
def xB_TooMany (K : PySem.W.Frag) : Bool := xclsB bAE K (He.ga K "TooMany") && (excB K (He.ga K "TooMany") && xfunB K d_TooMany_init (He.ga K "TooMany"))
abbrev s_Label_of_text : Stmt := inClass (top 17) 2
abbrev N_Label_of_text : List Str := ["cls", "text", "marks", "mark"]
theorem sc_Label_of_text : FnScope N_Label_of_text ["cls", "text"] (defScope s_Label_of_text) :=
  ⟨rfl, rfl, rfl, by decide +kernel, rfl, by decide +kernel, by decide +kernel⟩
def d_Label_of_text : He.DefD := ⟨("Label", some "of_text"), "of_text", "Label.of_text", defArgs s_Label_of_text, defBody s_Label_of_text, defScope s_Label_of_text, [], []⟩
theorem b_Label_of_text {K : PySem.W.Frag} : ∀ fd, FunD K d_Label_of_text.name d_Label_of_text.qual d_Label_of_text.params d_Label_of_text.body d_Label_of_text.scope (d_Label_of_text.dvs K) (d_Label_of_text.kws K) (gAd K d_Label_of_text.at_) fd → Bw K fd ["cls", "text"] 2 [] gPos :=
  fun fd F => bw_pos F 2 rfl (fun _ _ _ _ _ _ us hl => match us, hl with | [_, _], _ => rfl)
abbrev s_Label_marks : Stmt := inClass (top 17) 3
abbrev N_Label_marks : List Str := ["self"]
theorem sc_Label_marks : FnScope N_Label_marks ["self"] (defScope s_Label_marks) :=
  ⟨rfl, rfl, rfl, by decide +kernel, rfl, by decide +kernel, by decide +kernel⟩
def d_Label_marks : He.DefD := ⟨("Label", some "marks"), "marks", "Label.marks", defArgs s_Label_marks, defBody s_Label_marks, defScope s_Label_marks, [], []⟩
theorem b_Label_marks {K : PySem.W.Frag} : ∀ fd, FunD K d_Label_marks.name d_Label_marks.qual d_Label_marks.params d_Label_marks.body d_Label_marks.scope (d_Label_marks.dvs K) (d_Label_marks.kws K) (gAd K d_Label_marks.at_) fd → Bw K fd ["self"] 1 [] gPos :=
  fun fd F => bw_pos F 1 rfl (fun _ _ _ _ _ _ us hl => match us, hl with | [_], _ => rfl)
def fa : List He.Fa := ([.glo "_wall", .glo "InvalidError", .glo "InvalidName", .glo "InvalidLabel", .glo "InvalidText", .glo "LimitError", .glo "TooMany", .str "LETTERS" "abcdefghijklmnopqrstuvwxyz", .int "LONGEST_NAME" 8, .glo "is_name", .str "BETWEEN_MARKS" "+", .str "NO_MARKS" "-"] : List He.Fa) ++ ([.glo "want_label", .glo "marks_in_order", .glo "Label", .glo "_law_rng", .glo "_law_draw", .glo "_law_choice", .glo "_law_is_name", .glo "_law_mark", .glo "_law_pool", .glo "_law_label", .glo "_law_due", .glo "_law_told"] : List He.Fa) ++ ([.glo "_law_read", .glo "_law_read_due", .glo "_law_text", .glo "_law_spoilt", .glo "_law_same", .glo "_law_unlike", .glo "_law_label_right", .glo "_law_right", .glo "law", .free "ValueError", .free "ArithmeticError", .free "classmethod"] : List He.Fa) ++ ([.free "property", .free "all", .free "sorted", .free "range", .free "tuple", .free "isinstance", .free "len", .free "abs", .free "max", .free "divmod", .free "int", .free "str"] : List He.Fa) ++ ([.free "repr", .free "set", .free "list", .free "super", .free "min", .mkr "Label", .meth "Label" "__repr__", .meth "Label" "__str__", .meth "Label" "__len__", .meth "Label" "__contains__", .meth "Label" "__eq__", .noat "Label" "own_marks"] : List He.Fa) ++ ([.cls "Label", .noat "InvalidName" "value", .noat "InvalidName" "told_parts", .meth "InvalidName" "__init__", .noat "InvalidText" "problem", .noat "InvalidText" "told_parts", .meth "InvalidText" "__init__", .noat "TooMany" "kind", .noat "TooMany" "limit", .noat "TooMany" "told_parts", .meth "TooMany" "__init__"] : List He.Fa)
def fn : List He.DefD := ([d_is_name, d_want_label, d_marks_in_order, d_Label_init, d_Label_or, d_Label_and, d_Label_contains, d_Label_len, d_Label_str, d_Label_repr, d_Label_eq, d_law_rng] : List He.DefD) ++ ([d_law_draw, d_law_choice, d_law_is_name, d_law_mark, d_law_pool, d_law_label, d_law_due, d_law_told, d_law_read, d_law_read_due, d_law_text, d_law_spoilt] : List He.DefD) ++ ([d_law_same, d_law_unlike, d_law_label_right, d_law_right, d_law] : List He.DefD)
def xn : List He.DefD := [d_InvalidName_init, d_InvalidText_init, d_TooMany_init]
def zn : List He.DefD := [d_Label_of_text, d_Label_marks]
def own : List Str := ["Label"]
def osub : Str → Str → Bool := fun x y => (x == "Label" && y == "Label")
def xsub : Str → Str → Bool := fun x y => (x == "InvalidName" && y == "InvalidError") || (x == "InvalidName" && y == "InvalidName") || (x == "InvalidText" && y == "InvalidError") || (x == "InvalidText" && y == "InvalidText") || (x == "TooMany" && y == "LimitError") || (x == "TooMany" && y == "TooMany")
def xsubB : Str → String → Bool := fun x y => (x == "InvalidName" && y == "ValueError") || (x == "InvalidText" && y == "ValueError") || (x == "TooMany" && y == "ArithmeticError")
def xl : List Str := ["InvalidName", "InvalidText", "TooMany"]
def xc : List Str := ["InvalidError", "InvalidLabel", "InvalidName", "InvalidText", "LimitError", "TooMany"]
def xb : List String := ["ArithmeticError", "ValueError"]
def xfl : List (Str × Str) := [("InvalidName", "value"), ("InvalidText", "problem"), ("TooMany", "kind"), ("TooMany", "limit")]
def labB (K : PySem.W.Frag) : Bool := nfB K own "Label" && (readB K "Label" && (cvalB K "Label" "MOST" 4 && (okG K d_Label_marks && (propB K (He.ga K "Label") "marks" (gAd K d_Label_marks.at_) &&
  (okG K d_Label_of_text && cmetB K (He.ga K "Label") "of_text" (gAd K d_Label_of_text.at_))))))
def exB (K : PySem.W.Frag) : Bool := ownB K own osub && (exFB K xl xc xb xsub xsubB xfl && (labB K && (xB_InvalidName K && (xB_InvalidText K && xB_TooMany K))))
abbrev Txt (P : Program) (K : PySem.W.Frag) (mg : Str → Option Value) : Prop := TxZ P fa fn xn zn exB K mg
section
variable {P : Program} {K : PySem.W.Frag} {mg : Str → Option Value}
theorem own_ok (T : Txt P K mg) : OwnF K own osub := ⟨(He.ba T.c.more).1, fun C h => by
  rw [List.mem_singleton.mp h]
  exact He.cls_ok (T.fact 60)⟩
theorem exf_ok (T : Txt P K mg) : ExF K xl xc xb xsub xsubB xfl := ⟨(He.ba (He.ba T.c.more).2).1⟩
theorem lab_B (T : Txt P K mg) : labB K = true := (He.ba (He.ba (He.ba T.c.more).2).2).1
theorem xb_InvalidName (T : Txt P K mg) : xB_InvalidName K = true := (He.ba (He.ba (He.ba (He.ba T.c.more).2).2).2).1
theorem xb_InvalidText (T : Txt P K mg) : xB_InvalidText K = true := (He.ba (He.ba (He.ba (He.ba (He.ba T.c.more).2).2).2).2).1
theorem xb_TooMany (T : Txt P K mg) : xB_TooMany K = true := (He.ba (He.ba (He.ba (He.ba (He.ba T.c.more).2).2).2).2).2
theorem nf_Label (T : Txt P K mg) : nfB K own "Label" = true := (He.ba (lab_B T)).1
theorem eqc_Label (T : Txt P K mg) : eqCls K (He.ga K "Label") = true := (He.ba (nf_Label T)).1
theorem read_Label (T : Txt P K mg) : ClX.CRead K (He.ga K "Label") (.type "type") := readB_ok (He.ba (He.ba (lab_B T)).2).1
theorem cval_Label_MOST (T : Txt P K mg) : ∃ u, ClX.CVal K (He.ga K "Label") (.type "type") "MOST" (.int 4) u := cvalB_ok (He.ba (He.ba (He.ba (lab_B T)).2).2).1
theorem lab_B4 (T : Txt P K mg) : (okG K d_Label_marks && (propB K (He.ga K "Label") "marks" (gAd K d_Label_marks.at_) && (okG K d_Label_of_text && cmetB K (He.ga K "Label") "of_text" (gAd K d_Label_of_text.at_)))) = true := (He.ba (He.ba (He.ba (lab_B T)).2).2).2
theorem cm_Label_of_text (T : Txt P K mg) : ∃ p, ClX.CMet K (He.ga K "Label") (.type "type") "of_text" p (gAd K d_Label_of_text.at_) := cmetB_ok (He.ba (He.ba (He.ba (lab_B4 T)).2).2).2
theorem mk_Label (T : Txt P K mg) : Mk K (He.ga K "Label") (He.ma K (He.ga K "Label") "__init__") := He.mkr_ok (T.fact 53)
theorem fld_own_marks (T : Txt P K mg) : ∀ C ∈ ([("Label" : Str)]), Cls K (He.ga K C) ∧ NoAttr K (He.ga K C) "own_marks" := fun C h => by
  rw [List.mem_singleton.mp h]
  exact ⟨He.cls_ok (T.fact 60), He.noat_ok (T.fact 59)⟩
end
theorem x_InvalidName {P : Program} {K : PySem.W.Frag} {mg : Str → Option Value} (T : Txt P K mg) : ExcC K (He.ga K "InvalidName") ∧ XfC K (He.ga K "InvalidName") := excB_ok (He.ba (He.ba (xb_InvalidName T)).2).1
theorem m_InvalidName {P : Program} {w : World} {K : PySem.W.Frag} {mg : Str → Option Value} {base : Heap} (T : Txt P K mg) : XMk P w K mg base "InvalidName" (He.ga K "InvalidName") "InvalidName" ["value"] := by
  have X := xclsB_ok bVE_ok (He.ba (xb_InvalidName T)).1
  have m0 : (He.Fa.meth "InvalidName" "__init__").ok K = true := T.fact 63
  obtain ⟨m1, m2⟩ := He.ba m0
  obtain ⟨fd, F⟩ := T.xfn 0 (d := d_InvalidName_init) (He.ba (He.ba (xb_InvalidName T)).2).2
  refine ⟨⟨_, X.ok, X.oex⟩, T.glo 2, He.fAd K d_InvalidName_init.at_, fd, ["self", "value"], He.eqO_ok m1, beq_iff_eq.mp (He.ba m2).1, ?_, ?_⟩
  · refine XFun.ok (k := 0) F sc_InvalidName_init X T.pf (T.free 51) rfl (fun _ => rfl) ⟨_, rfl, rfl⟩ (fun vs H Q E h => ?_) (fun cda cc A outer s H vs Q E h => ?_)
    · obtain ⟨a, args, rfl, hl, _⟩ := h
      rw [List.length_cons, hl]
      rfl
    · obtain ⟨a, args, rfl, hl, ha, hq⟩ := h
      obtain ⟨v0, rfl⟩ := Ab.args1 hl
      refine ⟨a, _, rfl, ha, _, (pss_one (ps_asg (pe_tup (pa_cons (pv 1) (pa_cons (pe_tup (pa_cons pe_str (pa_cons (pv 1) pa_nil))) pa_nil))) (pg_tup (n := 2) rfl (pgs_cons (Ab.pg_ost (pv 0)) (pgs_cons (Ab.pg_ost (pv 0)) pgs_nil))))), ?_⟩
      exact Ab.init1 ⟨_, X.ok, X.oex⟩ (He.noat_ok (T.fact 61)) (He.noat_ok (T.fact 62)) ha hq
  · obtain ⟨oc, od, kV, doc, pm, an, cda, cc, ct, osl, ccl, cdd, cvs, ccs, tf, cl, cld, csl, rfl, _⟩ := F.ex
    exact Binds.all fun us hl => match us, hl with
      | [_, _], _ => rfl
theorem x_InvalidText {P : Program} {K : PySem.W.Frag} {mg : Str → Option Value} (T : Txt P K mg) : ExcC K (He.ga K "InvalidText") ∧ XfC K (He.ga K "InvalidText") := excB_ok (He.ba (He.ba (xb_InvalidText T)).2).1
theorem m_InvalidText {P : Program} {w : World} {K : PySem.W.Frag} {mg : Str → Option Value} {base : Heap} (T : Txt P K mg) : XMk P w K mg base "InvalidText" (He.ga K "InvalidText") "InvalidText" ["problem"] := by
  have X := xclsB_ok bVE_ok (He.ba (xb_InvalidText T)).1
  have m0 : (He.Fa.meth "InvalidText" "__init__").ok K = true := T.fact 66
  obtain ⟨m1, m2⟩ := He.ba m0
  obtain ⟨fd, F⟩ := T.xfn 1 (d := d_InvalidText_init) (He.ba (He.ba (xb_InvalidText T)).2).2
  refine ⟨⟨_, X.ok, X.oex⟩, T.glo 4, He.fAd K d_InvalidText_init.at_, fd, ["self", "problem"], He.eqO_ok m1, beq_iff_eq.mp (He.ba m2).1, ?_, ?_⟩
  · refine XFun.ok (k := 0) F sc_InvalidText_init X T.pf (T.free 51) rfl (fun _ => rfl) ⟨_, rfl, rfl⟩ (fun vs H Q E h => ?_) (fun cda cc A outer s H vs Q E h => ?_)
    · obtain ⟨a, args, rfl, hl, _⟩ := h
      rw [List.length_cons, hl]
      rfl
    · obtain ⟨a, args, rfl, hl, ha, hq⟩ := h
      obtain ⟨v0, rfl⟩ := Ab.args1 hl
      refine ⟨a, _, rfl, ha, _, (pss_one (ps_asg (pe_tup (pa_cons (pv 1) (pa_cons (pe_tup (pa_cons pe_str (pa_cons (pv 1) pa_nil))) pa_nil))) (pg_tup (n := 2) rfl (pgs_cons (Ab.pg_ost (pv 0)) (pgs_cons (Ab.pg_ost (pv 0)) pgs_nil))))), ?_⟩
      exact Ab.init1 ⟨_, X.ok, X.oex⟩ (He.noat_ok (T.fact 64)) (He.noat_ok (T.fact 65)) ha hq
  · obtain ⟨oc, od, kV, doc, pm, an, cda, cc, ct, osl, ccl, cdd, cvs, ccs, tf, cl, cld, csl, rfl, _⟩ := F.ex
    exact Binds.all fun us hl => match us, hl with
      | [_, _], _ => rfl
theorem x_TooMany {P : Program} {K : PySem.W.Frag} {mg : Str → Option Value} (T : Txt P K mg) : ExcC K (He.ga K "TooMany") ∧ XfC K (He.ga K "TooMany") := excB_ok (He.ba (He.ba (xb_TooMany T)).2).1
theorem m_TooMany {P : Program} {w : World} {K : PySem.W.Frag} {mg : Str → Option Value} {base : Heap} (T : Txt P K mg) : XMk P w K mg base "TooMany" (He.ga K "TooMany") "TooMany" ["kind", "limit"] := by
  have X := xclsB_ok bAE_ok (He.ba (xb_TooMany T)).1
  have m0 : (He.Fa.meth "TooMany" "__init__").ok K = true := T.fact 70
  obtain ⟨m1, m2⟩ := He.ba m0
  obtain ⟨fd, F⟩ := T.xfn 2 (d := d_TooMany_init) (He.ba (He.ba (xb_TooMany T)).2).2
  refine ⟨⟨_, X.ok, X.oex⟩, T.glo 6, He.fAd K d_TooMany_init.at_, fd, ["self", "kind", "limit"], He.eqO_ok m1, beq_iff_eq.mp (He.ba m2).1, ?_, ?_⟩
  · refine XFun.ok (k := 0) F sc_TooMany_init X T.pf (T.free 51) rfl (fun _ => rfl) ⟨_, rfl, rfl⟩ (fun vs H Q E h => ?_) (fun cda cc A outer s H vs Q E h => ?_)
    · obtain ⟨a, args, rfl, hl, _⟩ := h
      rw [List.length_cons, hl]
      rfl
    · obtain ⟨a, args, rfl, hl, ha, hq⟩ := h
      obtain ⟨v0, v1, rfl⟩ := Ab.args2 hl
      refine ⟨a, _, rfl, ha, _, (pss_one (ps_asg (pe_tup (pa_cons (pv 1) (pa_cons (pv 2) (pa_cons (pe_tup (pa_cons pe_str (pa_cons (pv 1) (pa_cons (pv 2) pa_nil)))) pa_nil)))) (pg_tup (n := 3) rfl (pgs_cons (Ab.pg_ost (pv 0)) (pgs_cons (Ab.pg_ost (pv 0)) (pgs_cons (Ab.pg_ost (pv 0)) pgs_nil)))))), ?_⟩
      exact Ab.init2 ⟨_, X.ok, X.oex⟩ (He.noat_ok (T.fact 67)) (He.noat_ok (T.fact 68)) (He.noat_ok (T.fact 69)) ha hq
  · obtain ⟨oc, od, kV, doc, pm, an, cda, cc, ct, osl, ccl, cdd, cvs, ccs, tf, cl, cld, csl, rfl, _⟩ := F.ex
    exact Binds.all fun us hl => match us, hl with
      | [_, _, _], _ => rfl
end L12

set_option Elab.async false
set_option linter.all false
set_option maxRecDepth 100000
set_option maxHeartbeats 4000000
/-! plain: texts of parts between plus signs -/
namespace L12
open PySem PySem.Spec PyProof.Rows L2 Ab
def pls (z : Str) : Nat := (cs z).count 43
theorem plus_eq : (Str.ofString "+") = ⟨#[43]⟩ := by decide +kernel
theorem joinL_count : ∀ {ps : List (List Nat)}, ps ≠ [] → (TL.joinL [43] ps).count 43 + 1 = (ps.map (List.count 43)).sum + ps.length
  | [], h => absurd rfl h
  | [p], _ => by simp [TL.joinL]
  | p :: q :: r, _ => by
    have ih := joinL_count (ps := q :: r) (by simp)
    show (p ++ ([43] ++ TL.joinL [43] (q :: r))).count 43 + 1 = _
    rw [List.count_append, List.count_append, List.map_cons, List.sum_cons, List.length_cons]
    have e : List.count 43 [43] = 1 := by decide
    rw [e]
    omega
theorem joinL_mem {S : List Nat} {c : Nat} : ∀ {ps : List (List Nat)}, c ∈ TL.joinL S ps → c ∈ S ∨ ∃ p ∈ ps, c ∈ p
  | [], h => by simp [TL.joinL] at h
  | [p], h => .inr ⟨p, List.mem_cons_self, h⟩
  | p :: q :: r, h => by
    have h : c ∈ p ++ (S ++ TL.joinL S (q :: r)) := h
    rcases List.mem_append.mp h with h | h
    · exact .inr ⟨p, List.mem_cons_self, h⟩
    · rcases List.mem_append.mp h with h | h
      · exact .inl h
      · rcases joinL_mem h with h | ⟨p', hp, hc⟩
        · exact .inl h
        · exact .inr ⟨p', List.mem_cons_of_mem _ hp, hc⟩
theorem mem_joinL {S : List Nat} {c : Nat} {p : List Nat} : ∀ {ps : List (List Nat)}, p ∈ ps → c ∈ p → c ∈ TL.joinL S ps
  | [q], h, hc => by
    rw [List.mem_singleton.mp h] at hc
    exact hc
  | q :: q' :: r, h, hc => by
    show c ∈ q ++ (S ++ TL.joinL S (q' :: r))
    rcases List.mem_cons.mp h with rfl | h
    · exact List.mem_append_left _ hc
    · exact List.mem_append_right _ (List.mem_append_right _ (mem_joinL h hc))
theorem cs_join (s : Str) (zs : List Str) : cs (Txt.join s zs) = TL.joinL (cs s) (zs.map cs) := by rw [TL.join_eq]; exact TL.tl_join s zs
theorem cs_plus : cs (Str.ofString "+") = [43] := by decide +kernel
abbrev prt (z : Str) : List Str := Txt.split z "+"
theorem prt_join (z : Str) : cs z = TL.joinL [43] ((prt z).map cs) := by
  have h := StrLaws.join_split z "+"
  have e := cs_join "+" (prt z)
  rw [TL.join_eq, h, cs_plus] at e
  exact e
theorem prt_ne (z : Str) : prt z ≠ [] := fun e => by
  have h := split_pos z "+"
  have e : Txt.split z "+" = [] := e
  rw [e] at h
  simp at h
theorem prt_free (z : Str) : ∀ p ∈ prt z, 43 ∉ cs p := by
  have h := StrLaws.split_free z 43
  rw [← plus_eq] at h
  exact h
theorem count_free {l : List Nat} (h : 43 ∉ l) : l.count 43 = 0 := List.count_eq_zero.mpr h
theorem sum_free : ∀ {zs : List Str}, (∀ z ∈ zs, 43 ∉ cs z) → ((zs.map cs).map (List.count 43)).sum = 0
  | [], _ => rfl
  | z :: zs, h => by
    rw [List.map_cons, List.map_cons, List.sum_cons, count_free (h z List.mem_cons_self), sum_free fun y hy => h y (List.mem_cons_of_mem _ hy)]
theorem prt_len (z : Str) : (prt z).length = pls z + 1 := by
  have h := joinL_count (ps := (prt z).map cs) (by simpa using prt_ne z)
  rw [← prt_join, sum_free (prt_free z), List.length_map] at h
  show _ = (cs z).count 43 + 1
  omega
theorem prt_short (z : Str) : ∀ p ∈ prt z, (cs p).length ≤ (cs z).length := fun p hp => by
  have := part_short hp
  rw [cs_len, cs_len] at this
  exact this
theorem prt_mem (z : Str) : ∀ p ∈ prt z, ∀ c ∈ cs p, c ∈ cs z := fun p hp c hc => by
  rw [prt_join z]
  exact mem_joinL (List.mem_map.mpr ⟨p, hp, rfl⟩) hc
theorem prt_weight (z : Str) : ((prt z).map (·.length)).sum + (prt z).length ≤ (cs z).length + 1 := by
  have := split_weight z "+" (by decide +kernel)
  rw [cs_len] at this
  exact this
/-- a text of plain signs, with few plus signs -/
structure Tx (n k : Nat) (z : Str) : Prop where
  g : Gn n z
  p : pls z ≤ k
theorem Tx.le {n k m l : Nat} {z : Str} (h : Tx n k z) (h1 : n ≤ m) (h2 : k ≤ l) : Tx m l z := ⟨h.g.le h1, Nat.le_trans h.p h2⟩
theorem Tx.app {n k m l : Nat} {a b : Str} (h : Tx n k a) (h' : Tx m l b) : Tx (n + m) (k + l) (a ++ b) := ⟨h.g.app h'.g, by
  unfold pls
  rw [cs_app, List.count_append]
  exact Nat.add_le_add h.p h'.p⟩
theorem count_le {l : List Nat} : l.count 43 ≤ l.length := List.count_le_length
/-- a join of texts without plus signs -/
theorem tx_join {zs : List Str} {n : Nat} (h1 : ∀ z ∈ zs, 43 ∉ cs z) (h2 : ∀ z ∈ zs, ∀ c ∈ cs z, c < 128) (h3 : (zs.map (·.length)).sum + zs.length ≤ n) : Tx n (zs.length - 1) (Txt.join "+" zs) := by
  refine ⟨⟨?_, fun c hc => ?_⟩, ?_⟩
  · rw [cs_join, cs_plus]
    refine Nat.le_trans (joinL_len _ _) ?_
    have e : ((zs.map cs).map List.length) = zs.map (·.length) := by
      rw [List.map_map]
      exact List.map_congr_left fun z _ => (cs_len z).symm
    rw [e, List.length_map]
    simp only [List.length_cons, List.length_nil]
    omega
  · rw [cs_join, cs_plus] at hc
    rcases joinL_mem hc with h | ⟨p, hp, hc⟩
    · rw [List.mem_singleton.mp h]; decide
    · obtain ⟨z, hz, rfl⟩ := List.mem_map.mp hp
      exact h2 z hz c hc
  · unfold pls
    rw [cs_join, cs_plus]
    by_cases h0 : zs = []
    · subst h0
      simp [TL.joinL]
    · have := joinL_count (ps := zs.map cs) (by simpa using h0)
      rw [sum_free h1, List.length_map] at this
      omega
theorem join_size {zs : List Str} {n : Nat} (h : (zs.map (·.length)).sum + zs.length ≤ n) (hn : n ≤ 1000000) : (zs.map (·.length)).sum + zs.length * (Str.ofString "+").length ≤ 16777216 := by
  have e : (Str.ofString "+").length = 1 := by decide +kernel
  rw [e]
  omega
theorem cut_sub (z : Str) (lo hi : Option Int) : (cs (cutS z lo hi)).Sublist (cs z) := by
  unfold cutS
  exact (List.take_sublist _ _).trans (List.drop_sublist _ _)
theorem pls_cut (z : Str) (lo hi : Option Int) : pls (cutS z lo hi) ≤ pls z := (cut_sub z lo hi).count_le 43
/-- the two ends of a text -/
theorem pls_two (z : Str) (a b : Nat) (h : a ≤ b) : pls (cutS z none (some (a : Int))) + pls (cutS z (some (b : Int)) none) ≤ pls z := by
  unfold pls cutS
  rw [HT.sIx_nat, HT.sIx_nat, HT.sIx_none, HT.sIx_none]
  simp only [cs, List.drop_zero, Nat.sub_zero]
  rw [← List.count_append]
  have key : ∀ (l : List Nat) (m n k : Nat), m ≤ n → (l.take m ++ (l.drop n).take k).Sublist l := fun l m n k h => by
    have e := List.take_append_drop m l
    exact (((List.Sublist.refl _).append ((List.take_sublist _ _).trans (List.drop_sublist_drop_left l h))).trans (by rw [e]; exact List.Sublist.refl _))
  exact (key _ _ _ _ (by omega)).count_le 43
end L12

set_option Elab.async false
set_option linter.all false
set_option maxRecDepth 100000
set_option maxHeartbeats 4000000
namespace L12
open PySem PySem.Spec PyProof.Rows L2 Ab
local macro_rules | `(tactic| walk_at "rr") => `(tactic| simp only [endsF, endsI, rho0, rhoI, List.map_cons, List.map_nil, List.length_cons, List.length_nil, List.replicate_succ, List.replicate_zero, List.cons_append, List.nil_append, Nat.reduceSub, Nat.reduceAdd, Nat.zero_add,
  dV_eq, dVat_d, gT_two, gT_three, dVat_o, Ab.okD_int, Ab.okD_bl, Ab.okD_non, Ab.okD_str, Ab.okD_tup0, Ab.okD_lst0, Ab.eqD_int, Ab.eqD_bl, Ab.eqD_str, dC, dOp, dUn, dChain, dAnd, dOr, dNot, dIfE, dNil, dCons, dTup, dLst, dF, dNext, dSeq, dBrk, dCnt, dExpr, dRet, dRetN, dIf, dSet, dSetO, dPar, dPar3, gN, dAsg, dFor, dItL, dItT, dItS, dItA, dR1, dR2, dComp, wipeR, dCall, dFn, dFnO, dSl, dNoP, dP, dM1, dM0, dSplit, dApp, dPop, dInO, dLenO, dSortSet, dFld, dStF, dMake, dMakeP, dMakeS, dMakeV, dProp, dCMeth, dCVal, dRaise, dTry, dHnd, endsX, offX, dXf, dIsX, dIsXB, dIsXT, dDnew, dFmt, dJs, dJoined, dCallK,
  pyIsN, pyEq, pyJoin, pyInO, fnAll, fnAny, fnAbs, fnMax, fnMin, fnStrI, fnSortS, fnIsi, fnIsO, fnRepr, fnReprS, fnLenO, fnStrO, Ab.Ow_d_l, Ab.Ow_d_i, Ab.Ow_d_m, Ab.pyAdd_i, Ab.pyAdd_s, Ab.pyAdd_l, Ab.pyAdd_t, Ab.pySub_i, Ab.pyMul_i, Ab.pyMul_s, Ab.pyMod_i, Ab.pyFdv_i, Ab.pyPow_i, Ab.pyLt_i, Ab.pyLt_s, Ab.pyLe_i, Ab.pyLe_s, Ab.pyGt_i, Ab.pyGt_s, Ab.pyGe_i, Ab.pyGe_s, Ab.pyNeg_i, Ab.pyIn_l, Ab.pyIn_t, Ab.pyIn_s, Ab.pyIx_l, Ab.pyIx_t, Ab.pyIx_s, Ab.pySl_s, Ab.pySl_t, Ab.pySl_l, Ab.pyUpper_s, Ab.pyLower_s, Ab.pyEqO_o, Ab.pyEqO_rnon, Ab.pyEqO_rbl, Ab.pyEqO_rint, Ab.pyEqO_rstr, Ab.pyEqO_rlst, Ab.pyEqO_rtup, Ab.pyEqO_rdict, Ab.fnLen_s, Ab.fnLen_l, Ab.fnLen_t, Ab.fnLen_d, Ab.fnTup_l, Ab.fnTup_t, Ab.fnList_l, Ab.fnList_t,
  Ab.isNon_non, Ab.isNon_bl, Ab.isNon_int, Ab.isNon_str, Ab.isNon_lst, Ab.isNon_tup, Ab.isNon_dict, Ab.isNon_obj, Ab.isNon_rng, Ab.isStrD_non, Ab.isStrD_bl, Ab.isStrD_int, Ab.isStrD_str, Ab.isStrD_lst, Ab.isStrD_tup, Ab.isStrD_dict, Ab.isStrD_obj, Ab.isStrD_rng, Ab.isIntD_non, Ab.isIntD_bl, Ab.isIntD_int, Ab.isIntD_str, Ab.isIntD_lst, Ab.isIntD_tup, Ab.isIntD_dict, Ab.isIntD_obj, Ab.isIntD_rng, Ab.isBlD_non, Ab.isBlD_bl, Ab.isBlD_int, Ab.isBlD_str, Ab.isBlD_lst, Ab.isBlD_tup, Ab.isBlD_dict, Ab.isBlD_obj, Ab.isBlD_rng, Ab.isLstD_non, Ab.isLstD_bl, Ab.isLstD_int, Ab.isLstD_str, Ab.isLstD_lst, Ab.isLstD_tup, Ab.isLstD_dict, Ab.isLstD_obj, Ab.isLstD_rng, Ab.isTupD_non, Ab.isTupD_bl, Ab.isTupD_int, Ab.isTupD_str, Ab.isTupD_lst, Ab.isTupD_tup, Ab.isTupD_dict, Ab.isTupD_obj, Ab.isTupD_rng, Ab.isDicD_non, Ab.isDicD_bl, Ab.isDicD_int, Ab.isDicD_str, Ab.isDicD_lst, Ab.isDicD_tup, Ab.isDicD_dict, Ab.isDicD_obj, Ab.isDicD_rng, Ab.kn_non, Ab.kn_bl, Ab.kn_int, Ab.kn_str, Ab.kn_lst, Ab.kn_tup, Ab.kn_dict, Ab.kn_obj, Ab.kn_rng, Ab.tyOf_non, Ab.tyOf_bl, Ab.tyOf_int, Ab.tyOf_str, Ab.tyOf_lst, Ab.tyOf_tup, Ab.tyOf_dict, Ab.tyOf_rng, Ab.isObjD_obj, Ab.isObjD_non, Ab.isObjD_bl, Ab.isObjD_int, Ab.isObjD_str, Ab.isObjD_lst, Ab.isObjD_tup, Ab.isObjD_dict, Ab.isObjD_rng,
  D.int.injEq, D.str.injEq, D.bl.injEq, D.lst.injEq, D.tup.injEq, D.obj.injEq, D.ty.injEq, D.cls.injEq, Sl.d.injEq, Sl.o.injEq, Sl.x.injEq, Ow.l.injEq, Ow.i.injEq, Ow.m.injEq, List.cons.injEq, Bool.not_eq_true', decide_eq_true_eq, decide_eq_false_iff_not, if_true, if_false, Bool.not_true, Bool.not_false, Bool.false_eq_true, not_true_eq_false, not_false_eq_true, and_assoc, and_true, true_and, exists_eq_left', exists_eq_left, exists_eq_right, exists_eq, exists_and_left, exists_eq_right_right, reduceCtorEq, false_and, and_false, exists_false, exists_const, or_false, false_or,
  List.getElem?_cons_zero, List.getElem?_cons_succ, Option.some.injEq, List.set_cons_zero, List.set_cons_succ, List.getElem?_nil, List.set_nil, true_implies, forall_const, List.length_map, List.mem_singleton, eq_self, List.lookup_cons_self, Nat.zero_le, exists_eq', Nat.reduceLeDiff])
local macro_rules | `(tactic| walk_at "rd") => `(tactic| simp only [start_eq, List.map_cons, List.map_nil, List.length_cons, List.length_nil, List.replicate_succ, List.replicate_zero, List.cons_append, List.nil_append, Nat.reduceSub, Nat.reduceAdd, Nat.zero_add,
  tSeq, tAsg, tIf, tTest, tOp, tVar, tCB, tCons, tNil, tC, gName, tRet, tLst, tTup, tIfS, tPar3, tDrop, tB, tAnd, tOr, tNot, tAndV, tOrV, tNotV, tUn, tNext, tNever, gTup, gSub, gCons, gNil, rSetL, tPar, rCat, rRep, rAppend, rAll, rAny, tM0, tM1, tBM, tBM0, tDisp, tPairs, rIn, tChain, tPart, tFld, tFmt, tJs, rRepS, tSl, tNoPart, rSlS, tAug, ipI, tDGet, rSetD, tOX, tMkX, rSimE, rSimN, tDGet2, tFor_eq, tLc_eq, iRng1, iRng2, iList, iTup, iStr, rI0, rI, rU, rIxL, rIxT, rIxS, tO, gPos, StX.tMakeR, tDNewK, sFld, ClX.tCVal, rSortedS, rEq, rNe, scal_ii, scal_ss, scal_bb, scal_nn, scal_is, scal_si, cx_K, cx_Kn,
  V.int.injEq, V.ref.injEq, V.str.injEq, V.bl.injEq, List.cons.injEq, Bool.not_eq_true', decide_eq_true_eq, decide_eq_false_iff_not, if_true, if_false, Bool.not_true, Bool.not_false, Bool.false_eq_true, not_true_eq_false, not_false_eq_true, and_assoc, and_true, true_and, exists_eq_left', exists_eq_left, exists_and_left, reduceCtorEq, false_and, and_false, exists_false, or_false, false_or,
  List.getElem?_cons_zero, List.getElem?_cons_succ, Option.some.injEq, List.set_cons_zero, List.set_cons_succ])
/-- a thing whose kind is known, a text not too long -/
def okS (x : D) : Prop := kn own x = true ∧ ∀ z, x = .str z → (cs z).length ≤ 1000000
def nmS (z : Str) : Bool := isNm (.str z)
def isNmD : D → Bool
  | .str z => nmS z
  | _ => false
def sIsName : DSp := fun ds A _ => ∃ x, ds = [x] ∧ okS x ∧ A (.bl (isNmD x))
theorem nm_def (z : Str) : nmS z = (decide (1 ≤ (cs z).length) && (decide ((cs z).length ≤ 8) && (cs z).all fun c => decide (c ∈ cs lets))) := rfl
section
variable {P : Program} {w : World} {K : PySem.W.Frag} {mg : Str → Option Value} {base : Heap}
theorem raw_law_rng (T : Txt P K mg) : Fo false P w K mg base CX0 1 d_law_rng ["_law_script", "_law_k"] (spRng K) := by
  obtain ⟨fd, F⟩ := T.dfn 11 (d := d_law_rng)
  refine ⟨fd, Fq.mk' F sc_law_rng (fun vs H Q E h => ?_) (fun cdv A outer s H vs Q E hg hr h => ?_), F⟩
  · obtain ⟨a, ns, k, rfl, _⟩ := h
    rfl
  obtain ⟨a, ns, k, rfl, hS, k0, k1, hQ⟩ := h
  obtain ⟨k, rfl⟩ := Int.eq_ofNat_of_zero_le k0
  refine ⟨_, (PSs.nox (pss_cons (ps_set (i := 2) sc_law_rng.nd rfl (Or.inl rfl) (pe_ifExp (pt_cmpR op_lt (pv 1) (pe_callB call_len_seq rfl (T.free 42) (by decide +kernel) (pa_cons (pv 0) pa_nil)) (nomark _)) (pe_callB call_abs rfl (T.free 43) (by decide +kernel) (pa_cons (pe_ix ix_list (pv 0) (pv 1) (fun _ _ => rfl)) pa_nil)) pe_int))
      (pss_one (ps_ret (pe_lst (pa_cons (pe_callB (call_max2 rfl) rfl (T.free 44) (by decide +kernel) (pa_cons pe_int (pa_cons (pe_op op_sub (pv 2) (pe_op op_pow pe_int pe_int)) pa_nil))) (pa_cons (pe_op op_add (pe_op op_mod (pe_callTy call_int1 rfl (T.free 46) (by decide +kernel) (pa_cons (pe_op op_pow (pe_op op_add (pe_op op_add (pe_op op_mod (pe_callTy call_int1 rfl (T.free 46) (by decide +kernel) (pa_cons (pv 2) pa_nil)) pe_int) (pe_op op_mul pe_int (pv 1))) pe_int) pe_int) pa_nil)) pe_int) pe_int) pa_nil))))))), ?_⟩
  walk_at "rd"
  refine ⟨_, Or.inl hS, ?_⟩
  have fin : ∀ (c x : Int), 0 ≤ c → ∀ p, H p = none → Q (V.ref p) (upd H p (.lst [.int x, .int (c % 2147483477 + 1)])) := fun c x hc p hp =>
    hQ p _ hp (Ex.new hp) ⟨_, _, upd_same, by omega, by omega⟩
  have hm : CMul 4127 k := Or.inl ⟨by decide, by decide⟩
  have hsz : 2 ≤ sizeLine := by decide
  have sq : ∀ z : Int, 0 ≤ z ^ Int.toNat 2 := fun z => by
    have e : Int.toNat 2 = 2 := rfl
    rw [e, Int.pow_succ, Int.pow_succ, Int.pow_zero, Int.one_mul]
    rcases Int.le_total 0 z with h | h
    · exact Int.mul_nonneg h h
    · exact Int.mul_nonneg_of_nonpos_of_nonpos h h
  refine ite2 (fun hlt => ?_) (fun _ => ?_)
  · have hl : k < ns.length := by
      have h1 : (k : Int) < ((List.map V.int ns).length : Int) := hlt
      rw [List.length_map] at h1
      omega
    refine ⟨_, hS, .int (ns[k]), ?_, _, rfl, ⟨by decide, by decide, by decide⟩, by decide, hm, ⟨by decide, by decide, ?_⟩, by decide, hsz, ?_⟩
    · refine atI_nat ?_
      simp [hl]
    · have h1 := Int.emod_nonneg (if ns[k] < 0 then -ns[k] else ns[k]) (show (2147483549 : Int) ≠ 0 by decide)
      have h2 := Int.emod_lt_of_pos (if ns[k] < 0 then -ns[k] else ns[k]) (show (0 : Int) < 2147483549 by decide)
      omega
    · exact fin _ _ (sq _)
  · refine ⟨⟨by decide, by decide, by decide⟩, by decide, hm, ⟨by decide, by decide, by omega⟩, by decide, hsz, ?_⟩
    exact fin _ _ (sq _)
theorem raw_law_draw (T : Txt P K mg) : Fo false P w K mg base CX0 1 d_law_draw ["_law_rng_here", "_law_many"] spDraw := by
  obtain ⟨fd, F⟩ := T.dfn 12 (d := d_law_draw)
  refine ⟨fd, Fq.mk' F sc_law_draw (fun vs H Q E h => ?_) (fun cdv A outer s H vs Q E hg hr h => ?_), F⟩
  · obtain ⟨r, m, rfl, _⟩ := h
    rfl
  obtain ⟨r, m, rfl, ⟨a, b, hR, b0, b1⟩, m0, m1, hQ⟩ := h
  refine ⟨_, (PSs.nox (pss_cons (ps_if (pt_cmpR op_gt (pe_ix ix_list (pv 0) pe_int (fun _ _ => rfl)) pe_int (nomark _)) (pss_cons (ps_asg (pe_callB call_divmod rfl (T.free 45) (by decide +kernel) (pa_cons (pe_ix ix_list (pv 0) pe_int (fun _ _ => rfl)) (pa_cons (pv 1) pa_nil))) (pg_tup (n := 2) rfl (pgs_cons (pg_sub (pv 0) pe_int set_list) (pgs_cons (pg_name (i := 2) sc_law_draw.nd rfl (Or.inl rfl)) pgs_nil))))
      (pss_one (ps_ret (pv 2)))) pss_nil)
      (pss_cons (ps_asg (pe_op op_mod (pe_callTy call_int1 rfl (T.free 46) (by decide +kernel) (pa_cons (pe_op op_add (pe_op op_mul (pe_ix ix_list (pv 0) pe_int (fun _ _ => rfl)) pe_int) pe_int) pa_nil)) pe_int) (pg_sub (pv 0) pe_int set_list))
      (pss_one (ps_ret (pe_op op_mod (pe_callTy call_int1 rfl (T.free 46) (by decide +kernel) (pa_cons (pe_op op_fdiv (pe_op op_mod (pe_callTy call_int1 rfl (T.free 46) (by decide +kernel) (pa_cons (pe_op op_mul (pe_ix ix_list (pv 0) pe_int (fun _ _ => rfl)) (pe_ix ix_list (pv 0) pe_int (fun _ _ => rfl))) pa_nil)) pe_int) pe_int) pa_nil)) (pv 1))))))), ?_⟩
  walk_at "rd"
  have s0 := SqL.of (K := K) hR
  have md : ∀ z : Int, 0 ≤ z % m ∧ z % m < m := fun z => ⟨Int.emod_nonneg _ (by omega), Int.emod_lt_of_pos _ m0⟩
  refine ⟨_, s0, .int a, rfl, _, rfl, ite2 (fun _ => ?_) (fun _ => ?_)⟩
  · refine ⟨_, s0, .int a, rfl, _, rfl, ⟨m0, by omega⟩, fun p hp => ⟨_, SqT.of upd_same, rfl, ?_⟩⟩
    refine ⟨_, _, rfl, _, (upd_ne (ne_of_none hR hp)).trans hR, 0, rfl, _, _, rfl, rfl, ?_⟩
    exact hQ _ _ (md a).1 (md a).2 ⟨(Fx.keep Fx.refl hp).own, a / m, b, upd_same, b0, b1⟩
  · have c0 := Int.emod_nonneg (b * 39373 + 9973) (show (2147483629 : Int) ≠ 0 by decide)
    have c1 := Int.emod_lt_of_pos (b * 39373 + 9973) (show (0 : Int) < 2147483629 by decide)
    refine ⟨_, s0, .int b, rfl, _, rfl, Or.inl ⟨by omega, by omega⟩, by decide, _, hR, 1, rfl, _, SqL.of upd_same, _, rfl, _, SqL.of upd_same, _, rfl, _, rfl, _, rfl,
      Or.inl ⟨by omega, by omega⟩, by decide, ⟨by decide, by decide⟩, m0, ?_⟩
    exact hQ _ _ (md _).1 (md _).2 ⟨Fx.refl.own, a, _, upd_same, c0, by omega⟩
theorem ok_law_draw (T : Txt P K mg) : Fo true P w K mg base (L2.CX P w) 1 d_law_draw ["_law_rng_here", "_law_many"] (spD K 2 sDraw) := by
  obtain ⟨fd, F, FD⟩ := raw_law_draw (P := P) (w := w) (base := base) T
  exact Fo.conv ⟨fd, F.up, FD⟩ sp_draw
theorem ok_law_choice (T : Txt P K mg) : Fo true P w K mg base (L2.CX P w) 2 d_law_choice ["_law_rng_here", "_law_options"] (spD K 2 sChoice) := by
  obtain ⟨fd, F⟩ := T.dfn 13 (d := d_law_choice)
  refine fo_mk (k := 1) (m := 2) F sc_law_choice rfl rfl (fun cdv A outer s H E hg hr => (pss_one (psd_ret (ps_ret (pd_op od_ix (pe_ix ix_any (pd_var (pv 1)) (pd_call (pe_oX (ok_law_draw T) (T.glo 16) (b_law_draw) hg (hr.mono (by omega)) rfl (takes_of rfl rfl rfl rfl) (pda_cons (pa_cons (pd_var (pv 0)) (pda_cons (pa_cons (pd_fn cd_len (pe_callB call_lenA rfl (T.free 42) (by decide +kernel) (pda_cons (pa_cons (pd_var (pv 1)) pda_nil)))) pda_nil)))))) (fun _ _ => rfl))))))) ?_
  intro ds Q B hl h
  rcases h with ⟨l, rfl, h0, h1, hA⟩ | ⟨l, rfl, h0, h1, hA⟩ | ⟨z, rfl, h0, h1, hA⟩
  · walk_at "rr"
    have := List.length_pos_iff.mpr h0
    refine ⟨_, rfl, by omega, by omega, fun k hk => ?_⟩
    have hk' : k < l.length := by omega
    walk_at "rr"
    exact ⟨l[k], atI_nat (by simp [hk']), hA _ (List.getElem_mem hk')⟩
  · walk_at "rr"
    have := List.length_pos_iff.mpr h0
    refine ⟨_, rfl, by omega, by omega, fun k hk => ?_⟩
    have hk' : k < l.length := by omega
    walk_at "rr"
    exact ⟨l[k], atI_nat (by simp [hk']), hA _ (List.getElem_mem hk')⟩
  · walk_at "rr"
    have := List.length_pos_iff.mpr h0
    refine ⟨by omega, _, rfl, by omega, by omega, fun k hk => ?_⟩
    have hk' : k < (cs z).length := by omega
    walk_at "rr"
    exact ⟨by omega, (cs z)[k], atI_nat (by simp [hk']), hA _ (List.getElem_mem hk')⟩
theorem ok_is_name (T : Txt P K mg) : Fo false P w K mg base (L2.CX P w) 1 d_is_name ["value"] (spD K 1 sIsName) := by
  obtain ⟨fd, F⟩ := T.dfn 0 (d := d_is_name)
  refine fo_mk (k := 0) (m := 2) F sc_is_name rfl rfl (fun cdv A outer s H E hg hr => (psd_cons (pss_cons (psd_if (ps_if (PW.pt (pwd_or (pw_or (ptd_not (pt_not (pt_val (pd_fn (cd_isStr (own_ok T)) (pe_callB call_isi rfl (T.free 41) (by decide +kernel) (pda_cons (pa_cons (pd_var (pv 0)) (pda_cons (pa_cons (pd_c (pe_bltn (v := .ty "str") rfl (T.free 47) (by decide +kernel) rfl) (fun _ _ => .ty _)) pda_nil))))))))) (pw_or1 (ptd_not (pt_not (ptd_chain od_le od_le (pt_chain op_leA op_leA pd_int (pd_fn cd_len (pe_callB call_lenA rfl (T.free 42) (by decide +kernel) (pda_cons (pa_cons (pd_var (pv 0)) pda_nil)))) (pd_c (pe_gi rfl (T.int 8)) (fun _ _ => .int _)))))))))) (pss_one (psd_ret (ps_ret pd_bl))) psd_nil))
      (pss_one (psd_ret (ps_ret (pd_fn cd_all (pe_callB (cr_all rfl) rfl (T.free 37) (by decide +kernel) (pda_cons (pa_cons (pd_frz (pdo_lc (pe_lc (own := [("letter", 1)]) rfl sc_is_name.nd (pid_str (pi_str (pd_var (pv 0)))) (blkOk_by (own := [("letter", 1)]) (N := N_is_name) (sc := defScope s_is_name) (by decide +kernel)) (fun _ _ _ _ _ => (pgd_name (vs := [1]) (pg_name (i := 1) sc_is_name.nd rfl (Or.inl rfl)))) (fun _ _ _ _ _ => pts_nil) (fun _ _ _ _ _ => (pd_op (od_in (neg := false)) (pe_cmpR (op_inA hr.units) (pd_var (pv 1)) (pd_c (pe_gs rfl (T.str 7)) (fun _ _ => .str _)) (by rfl))))))) pda_nil)))))))))) ?_
  intro ds Q B hl h
  obtain ⟨x, rfl, ⟨hk, hz⟩, hA⟩ := h
  cases x with
  | str z =>
    have hz := hz z rfl
    have hA : Q (.bl (nmS z)) := hA
    rw [nm_def] at hA
    walk_at "rr"
    refine ⟨hz, ?_⟩
    by_cases h1 : 1 ≤ (cs z).length
    · by_cases h8 : (cs z).length ≤ 8
      · rw [if_pos (by omega), if_neg (by omega)]
        refine lc_mapG (cs z) (fun c => .str ⟨#[c]⟩) (fun c => .bl (decide (c ∈ cs lets))) (by omega) (fun c hc Q h => ?_) ?_
        · walk_at "rr"
          exact ⟨c, rfl, h⟩
        · rw [map_bl]
          refine ⟨_, rfl, ?_⟩
          rw [all_map_id]
          rw [decide_eq_true h1, decide_eq_true h8] at hA
          exact hA
      · rw [if_pos (by omega), if_pos (by omega)]
        rw [decide_eq_false h8, Bool.false_and, Bool.and_false] at hA
        exact hA
    · rw [if_neg (by omega)]
      rw [decide_eq_false h1, Bool.false_and] at hA
      exact hA
  | _ => walk_at "rr"; first | exact hA | exact ⟨hk, hA⟩ | exact ⟨of_decide_eq_true hk, hA⟩ | exact absurd hk (by decide)
theorem ok_law_is_name (T : Txt P K mg) : Fo true P w K mg base (L2.CX P w) 1 d_law_is_name ["_law_thing"] (spD K 1 sIsName) := by
  obtain ⟨fd, F⟩ := T.dfn 14 (d := d_law_is_name)
  refine fo_mk (k := 0) (m := 3) F sc_law_is_name rfl rfl (fun cdv A outer s H E hg hr => (psd_cons (pss_cons (psd_set (ps_set (i := 1) sc_law_is_name.nd rfl (Or.inr rfl) pd_str))
      (pss_one (psd_ret (ps_ret (pd_and (pe_and (pd_fn (cd_isStr (own_ok T)) (pe_callB call_isi rfl (T.free 41) (by decide +kernel) (pda_cons (pa_cons (pd_var (pv 0)) (pda_cons (pa_cons (pd_c (pe_bltn (v := .ty "str") rfl (T.free 47) (by decide +kernel) rfl) (fun _ _ => .ty _)) pda_nil)))))) (pd_and (pe_and (pd_chain od_le od_le (pe_chain op_leA op_leA pd_int (pd_fn cd_len (pe_callB call_lenA rfl (T.free 42) (by decide +kernel) (pda_cons (pa_cons (pd_var (pv 0)) pda_nil)))) pd_int)) (pe_one (pd_fn cd_all (pe_callB (cr_all rfl) rfl (T.free 37) (by decide +kernel) (pda_cons (pa_cons (pd_frz (pdo_lc (pe_lc (own := [("_law_sign", 2)]) rfl sc_law_is_name.nd (pid_str (pi_str (pd_var (pv 0)))) (blkOk_by (own := [("_law_sign", 2)]) (N := N_law_is_name) (sc := defScope s_law_is_name) (by decide +kernel)) (fun _ _ _ _ _ => (pgd_name (vs := [2]) (pg_name (i := 2) sc_law_is_name.nd rfl (Or.inl rfl)))) (fun _ _ _ _ _ => pts_nil) (fun _ _ _ _ _ => (pd_op (od_in (neg := false)) (pe_cmpR (op_inA hr.units) (pd_var (pv 2)) (pd_var (pv 1)) (by rfl))))))) pda_nil))))))))))))))) ?_
  intro ds Q B hl h
  obtain ⟨x, rfl, ⟨hk, hz⟩, hA⟩ := h
  cases x with
  | str z =>
    have hz := hz z rfl
    have hA : Q (.bl (nmS z)) := hA
    rw [nm_def] at hA
    walk_at "rr"
    refine ⟨hz, ?_⟩
    by_cases h1 : 1 ≤ (cs z).length
    · by_cases h8 : (cs z).length ≤ 8
      · rw [if_pos (by omega), if_pos (by omega)]
        refine lc_mapG (cs z) (fun c => .str ⟨#[c]⟩) (fun c => .bl (decide (c ∈ cs lets))) (by omega) (fun c hc Q h => ?_) ?_
        · walk_at "rr"
          exact ⟨c, rfl, h⟩
        · rw [map_bl]
          refine ⟨_, rfl, ?_⟩
          rw [all_map_id]
          rw [decide_eq_true h1, decide_eq_true h8] at hA
          exact hA
      · rw [if_pos (by omega), if_neg (by omega)]
        rw [decide_eq_false h8, Bool.false_and, Bool.and_false] at hA
        exact hA
    · rw [if_neg (by omega)]
      rw [decide_eq_false h1, Bool.false_and] at hA
      exact hA
  | _ => walk_at "rr"; first | exact hA | exact ⟨hk, hA⟩ | exact ⟨of_decide_eq_true hk, hA⟩ | exact absurd hk (by decide)
end
end L12

set_option Elab.async false
set_option linter.all false
set_option maxRecDepth 100000
set_option maxHeartbeats 4000000
namespace L12
open PySem PySem.Spec PyProof.Rows L2 Ab
local macro_rules | `(tactic| walk_at "rr") => `(tactic| simp only [endsF, endsI, rho0, rhoI, List.map_cons, List.map_nil, List.length_cons, List.length_nil, List.replicate_succ, List.replicate_zero, List.cons_append, List.nil_append, Nat.reduceSub, Nat.reduceAdd, Nat.zero_add,
  dV_eq, dVat_d, gT_two, gT_three, dVat_o, Ab.okD_int, Ab.okD_bl, Ab.okD_non, Ab.okD_str, Ab.okD_tup0, Ab.okD_lst0, Ab.eqD_int, Ab.eqD_bl, Ab.eqD_str, dC, dOp, dUn, dChain, dAnd, dOr, dNot, dIfE, dNil, dCons, dTup, dLst, dF, dNext, dSeq, dBrk, dCnt, dExpr, dRet, dRetN, dIf, dSet, dSetO, dPar, dPar3, gN, dAsg, dFor, dItL, dItT, dItS, dItA, dR1, dR2, dComp, wipeR, dCall, dFn, dFnO, dSl, dNoP, dP, dM1, dM0, dSplit, dApp, dPop, dInO, dLenO, dSortSet, dFld, dStF, dMake, dMakeP, dMakeS, dMakeV, dProp, dCMeth, dCVal, dRaise, dTry, dHnd, endsX, offX, dXf, dIsX, dIsXB, dIsXT, dDnew, dFmt, dJs, dJoined, dCallK,
  pyIsN, pyEq, pyJoin, pyInO, fnAll, fnAny, fnAbs, fnMax, fnMin, fnStrI, fnSortS, fnIsi, fnIsO, fnRepr, fnReprS, fnLenO, fnStrO, Ab.Ow_d_l, Ab.Ow_d_i, Ab.Ow_d_m, Ab.pyAdd_i, Ab.pyAdd_s, Ab.pyAdd_l, Ab.pyAdd_t, Ab.pySub_i, Ab.pyMul_i, Ab.pyMul_s, Ab.pyMod_i, Ab.pyFdv_i, Ab.pyPow_i, Ab.pyLt_i, Ab.pyLt_s, Ab.pyLe_i, Ab.pyLe_s, Ab.pyGt_i, Ab.pyGt_s, Ab.pyGe_i, Ab.pyGe_s, Ab.pyNeg_i, Ab.pyIn_l, Ab.pyIn_t, Ab.pyIn_s, Ab.pyIx_l, Ab.pyIx_t, Ab.pyIx_s, Ab.pySl_s, Ab.pySl_t, Ab.pySl_l, Ab.pyUpper_s, Ab.pyLower_s, Ab.pyEqO_o, Ab.pyEqO_rnon, Ab.pyEqO_rbl, Ab.pyEqO_rint, Ab.pyEqO_rstr, Ab.pyEqO_rlst, Ab.pyEqO_rtup, Ab.pyEqO_rdict, Ab.fnLen_s, Ab.fnLen_l, Ab.fnLen_t, Ab.fnLen_d, Ab.fnTup_l, Ab.fnTup_t, Ab.fnList_l, Ab.fnList_t,
  Ab.isNon_non, Ab.isNon_bl, Ab.isNon_int, Ab.isNon_str, Ab.isNon_lst, Ab.isNon_tup, Ab.isNon_dict, Ab.isNon_obj, Ab.isNon_rng, Ab.isStrD_non, Ab.isStrD_bl, Ab.isStrD_int, Ab.isStrD_str, Ab.isStrD_lst, Ab.isStrD_tup, Ab.isStrD_dict, Ab.isStrD_obj, Ab.isStrD_rng, Ab.isIntD_non, Ab.isIntD_bl, Ab.isIntD_int, Ab.isIntD_str, Ab.isIntD_lst, Ab.isIntD_tup, Ab.isIntD_dict, Ab.isIntD_obj, Ab.isIntD_rng, Ab.isBlD_non, Ab.isBlD_bl, Ab.isBlD_int, Ab.isBlD_str, Ab.isBlD_lst, Ab.isBlD_tup, Ab.isBlD_dict, Ab.isBlD_obj, Ab.isBlD_rng, Ab.isLstD_non, Ab.isLstD_bl, Ab.isLstD_int, Ab.isLstD_str, Ab.isLstD_lst, Ab.isLstD_tup, Ab.isLstD_dict, Ab.isLstD_obj, Ab.isLstD_rng, Ab.isTupD_non, Ab.isTupD_bl, Ab.isTupD_int, Ab.isTupD_str, Ab.isTupD_lst, Ab.isTupD_tup, Ab.isTupD_dict, Ab.isTupD_obj, Ab.isTupD_rng, Ab.isDicD_non, Ab.isDicD_bl, Ab.isDicD_int, Ab.isDicD_str, Ab.isDicD_lst, Ab.isDicD_tup, Ab.isDicD_dict, Ab.isDicD_obj, Ab.isDicD_rng, Ab.kn_non, Ab.kn_bl, Ab.kn_int, Ab.kn_str, Ab.kn_lst, Ab.kn_tup, Ab.kn_dict, Ab.kn_obj, Ab.kn_rng, Ab.tyOf_non, Ab.tyOf_bl, Ab.tyOf_int, Ab.tyOf_str, Ab.tyOf_lst, Ab.tyOf_tup, Ab.tyOf_dict, Ab.tyOf_rng, Ab.isObjD_obj, Ab.isObjD_non, Ab.isObjD_bl, Ab.isObjD_int, Ab.isObjD_str, Ab.isObjD_lst, Ab.isObjD_tup, Ab.isObjD_dict, Ab.isObjD_rng,
  D.int.injEq, D.str.injEq, D.bl.injEq, D.lst.injEq, D.tup.injEq, D.obj.injEq, D.ty.injEq, D.cls.injEq, Sl.d.injEq, Sl.o.injEq, Sl.x.injEq, Ow.l.injEq, Ow.i.injEq, Ow.m.injEq, List.cons.injEq, Bool.not_eq_true', decide_eq_true_eq, decide_eq_false_iff_not, if_true, if_false, Bool.not_true, Bool.not_false, Bool.false_eq_true, not_true_eq_false, not_false_eq_true, and_assoc, and_true, true_and, exists_eq_left', exists_eq_left, exists_eq_right, exists_eq, exists_and_left, exists_eq_right_right, reduceCtorEq, false_and, and_false, exists_false, exists_const, or_false, false_or,
  List.getElem?_cons_zero, List.getElem?_cons_succ, Option.some.injEq, List.set_cons_zero, List.set_cons_succ, List.getElem?_nil, List.set_nil, true_implies, forall_const, List.length_map, List.mem_singleton, eq_self, List.lookup_cons_self, Nat.zero_le, exists_eq', Nat.reduceLeDiff])
/-- the first that is no name -/
def badD (xs : List D) : Option D := xs.find? fun v => !isNmD v
abbrev xName (v : D) : Xd := ("InvalidName", xfD "InvalidName" ["value"] [v])
abbrev xMany : Xd := ("TooMany", xfD "TooMany" ["kind", "limit"] [.str "marks", .int 4])
abbrev xText (p : Str) : Xd := ("InvalidText", xfD "InvalidText" ["problem"] [.str p])
theorem nmD_str {v : D} (h : isNmD v = true) : ∃ z, v = .str z := by
  cases v with
  | str z => exact ⟨z, rfl⟩
  | _ => cases h
/-- behind i marks: all names, ys those found -/
structure Mid (xs : List D) (i : Nat) (ys : List Str) : Prop where
  ex : ∃ zs : List Str, xs.take i = zs.map D.str ∧ (∀ z ∈ zs, nmS z = true) ∧ (∀ k, k ∈ ys ↔ k ∈ zs) ∧ ys.Nodup
  len : ys.length ≤ xs.length ∧ ys.length ≤ i
theorem Mid.zero {xs : List D} : Mid xs 0 [] := ⟨⟨[], rfl, by simp, by simp, by simp⟩, by simp⟩
theorem take_next {xs : List D} {i : Nat} {x : D} (h : xs[i]? = some x) : xs.take (i + 1) = xs.take i ++ [x] := by
  rw [List.take_add_one, h]
  rfl
theorem Mid.old {xs : List D} {i : Nat} {ys : List Str} {z : Str} (m : Mid xs i ys) (hx : xs[i]? = some (.str z)) (hn : nmS z = true) (hz : z ∈ ys) : Mid xs (i + 1) ys := by
  obtain ⟨⟨zs, h1, h2, h3, h4⟩, h5, h6⟩ := m
  refine ⟨⟨zs ++ [z], by rw [take_next hx, h1, List.map_append]; rfl, fun k hk => ?_, fun k => ?_, h4⟩, h5, by omega⟩
  · rcases List.mem_append.mp hk with q | q
    · exact h2 k q
    · rw [List.mem_singleton.mp q]
      exact hn
  · rw [List.mem_append, List.mem_singleton]
    exact ⟨fun q => .inl ((h3 k).mp q), fun q => q.elim (h3 k).mpr fun e => e ▸ hz⟩
theorem Mid.new {xs : List D} {i : Nat} {ys : List Str} {z : Str} (m : Mid xs i ys) (hx : xs[i]? = some (.str z)) (hn : nmS z = true) (hz : z ∉ ys) : Mid xs (i + 1) (ys ++ [z]) := by
  obtain ⟨⟨zs, h1, h2, h3, h4⟩, h5, h6⟩ := m
  have hi : i < xs.length := (List.getElem?_eq_some_iff.mp hx).1
  have hlen : ys.length ≤ i := h6
  refine ⟨⟨zs ++ [z], by rw [take_next hx, h1, List.map_append]; rfl, fun k hk => ?_, fun k => ?_, ?_⟩, ?_, ?_⟩
  · rcases List.mem_append.mp hk with q | q
    · exact h2 k q
    · rw [List.mem_singleton.mp q]
      exact hn
  · rw [List.mem_append, List.mem_append, h3 k]
  · refine List.nodup_append.mpr ⟨h4, by simp, fun a ha b hb e => ?_⟩
    rw [List.mem_singleton.mp hb] at e
    exact hz (e ▸ ha)
  · rw [List.length_append]
    show ys.length + 1 ≤ _
    omega
  · rw [List.length_append]
    show ys.length + 1 ≤ _
    omega
theorem Mid.bad {xs : List D} {i : Nat} {ys : List Str} {x : D} (m : Mid xs i ys) (hx : xs[i]? = some x) (hn : isNmD x = false) : badD xs = some x := by
  obtain ⟨⟨zs, h1, h2, _⟩, _⟩ := m
  have e : xs = xs.take i ++ x :: xs.drop (i + 1) := by
    obtain ⟨hi, rfl⟩ := List.getElem?_eq_some_iff.mp hx
    rw [← List.drop_eq_getElem_cons hi, List.take_append_drop]
  unfold badD
  rw [e, List.find?_append, h1]
  have n1 : (zs.map D.str).find? (fun v => !isNmD v) = none := by
    rw [List.find?_eq_none]
    intro v hv
    obtain ⟨z, hz, rfl⟩ := List.mem_map.mp hv
    show ¬ (!nmS z) = true
    rw [h2 z hz]
    decide
  rw [n1, List.find?_cons_of_pos (by rw [hn]; rfl)]
  rfl
def sMIO : DSp := fun ds A B => ∃ xs, (ds = [.tup xs] ∨ ds = [.lst xs]) ∧ xs.length ≤ 60 ∧ (∀ x ∈ xs, okS x) ∧ (∀ v, badD xs = some v → B (xName v)) ∧ ∀ zs : List Str, xs = zs.map D.str → (∀ z ∈ zs, nmS z = true) → A (.lst ((srt zs).map D.str))
/-- what a label is -/
abbrev labD (ms : List Str) : D := .obj "Label" [("own_marks", .tup (ms.map D.str))]
def LabM (ms : List Str) : Prop := ms.length ≤ 4 ∧ (∀ z ∈ ms, nmS z = true) ∧ ms = srt ms
theorem nm_len {z : Str} (h : nmS z = true) : (cs z).length ≤ 8 := by
  rw [nm_def] at h
  simp only [Bool.and_eq_true, decide_eq_true_eq] at h
  omega
theorem lets128 : ∀ c ∈ cs lets, c < 128 := by decide +kernel
theorem nm_repr {z : Str} (h : nmS z = true) : (reprText z).length ≤ 100 := by
  rw [nm_def] at h
  simp only [Bool.and_eq_true, decide_eq_true_eq, List.all_eq_true] at h
  have := StrLaws.reprText_len z fun c hc => Nat.lt_of_lt_of_le (lets128 c (h.2.2 c hc)) (by decide)
  have e := cs_len z
  omega
theorem join_small : ∀ {l : List Str}, l.length ≤ 4 → (∀ z ∈ l, z.length ≤ 100) → (l.map (fun x => x.length)).sum + l.length * (Str.ofString ", ").length ≤ 16777216 ∧ (Txt.join ", " l).length ≤ 1000 := by
  intro l hl h
  have e2 : (Str.ofString ", ").length = 2 := by decide +kernel
  have hs : ∀ {l : List Str}, (∀ z ∈ l, z.length ≤ 100) → (l.map (fun x => x.length)).sum ≤ 100 * l.length := by
    intro l
    induction l with
    | nil => intro _; simp
    | cons x l ih =>
      intro h
      have h1 := h x List.mem_cons_self
      have h2 := ih fun z hz => h z (List.mem_cons_of_mem _ hz)
      simp only [List.map_cons, List.sum_cons, List.length_cons]
      omega
  have hs := hs h
  refine ⟨by rw [e2]; omega, ?_⟩
  have := join_len ", " l (b := 100) fun z hz => by rw [← cs_len]; exact h z hz
  have e3 : (cs (Str.ofString ", ")).length = 2 := by decide +kernel
  rw [e3] at this
  rw [cs_len]
  omega
theorem map_str_inj : ∀ {xs ys : List Str}, xs.map D.str = ys.map D.str → xs = ys
  | [], [], _ => rfl
  | x :: xs, y :: ys, h => by
    injection h with h1 h2
    injection h1 with h1
    rw [h1, map_str_inj h2]
theorem bad_none {zs : List Str} (h : ∀ z ∈ zs, nmS z = true) : badD (zs.map D.str) = none := by
  unfold badD
  rw [List.find?_eq_none]
  intro v hv
  obtain ⟨z, hz, rfl⟩ := List.mem_map.mp hv
  show ¬ (!nmS z) = true
  rw [h z hz]
  decide
def sLab : SpecI := fun ds A B => ∃ xs, ds = [.tup xs] ∧ xs.length ≤ 60 ∧ (∀ x ∈ xs, okS x) ∧ (∀ v, badD xs = some v → B (xName v)) ∧ ∀ zs : List Str, xs = zs.map D.str → (∀ z ∈ zs, nmS z = true) →
  ((srt zs).length ≤ 4 → A [("own_marks", .tup ((srt zs).map D.str))]) ∧ (4 < (srt zs).length → B xMany)
section
variable {P : Program} {w : World} {K : PySem.W.Frag} {mg : Str → Option Value} {base : Heap}
theorem ok_marks_in_order (T : Txt P K mg) : Fo false P w K mg base (L2.CX P w) 3 d_marks_in_order ["marks"] (spD K 1 sMIO) := by
  obtain ⟨fd, F⟩ := T.dfn 2 (d := d_marks_in_order)
  refine fo_mk (k := 2) (m := 3) F sc_marks_in_order rfl rfl (fun cdv A outer s H E hg hr => (psd_cons (pss_cons (psd_setO (ps_set (i := 1) sc_marks_in_order.nd rfl (Or.inl rfl) (pdo_lst (pe_lst pda_nil))))
      (psd_cons (pss_cons (psd_for (ps_for (passes_of rfl) rfl (pid_any (pi_list (pd_var (pv 0))) (pi_tup (pd_var (pv 0))) (pi_str (pd_var (pv 0)))) (pgd_name (vs := [2]) (pg_name (i := 2) sc_marks_in_order.nd rfl (Or.inl rfl))) (psd_cons (pss_cons (psd_if (ps_if (ptd_not (pt_not (pt_val (pd_call (pe_oX (ok_is_name T) (T.glo 9) (b_is_name) gd_false (hr.mono (by omega)) rfl (takes_of rfl rfl rfl rfl) (pda_cons (pa_cons (pd_var (pv 2)) pda_nil))))))) (pss_one (psd_raise (nm := "InvalidName") (ps_raise rfl (takes_of rfl rfl rfl rfl) (Ab.pmk_x (m_InvalidName T) (by decide) (hr.mono (by omega)) rfl (pda_cons (pa_cons (pd_var (pv 2)) pda_nil)))))) psd_nil))
      (pss_one (psd_if (ps_if (ptd_inO (neg := true) (pt_cmpR (op_notInA hr.units) (pd_var (pv 2)) (pv 1) (by rfl))) (pss_one (psd_expr (ps_expr (pd_app (pe_bm PySem.F.plainAttrs_list PySem.F.slot_list_append PySem.F.type_list_append mt_append (pv 1) (pda_cons (pa_cons (pd_var (pv 2)) pda_nil))))))) psd_nil)))))))
      (pss_one (psd_ret (ps_ret (pd_frz (pdo_fn co_sortS (pe_callB cr_sortedS rfl (T.free 38) (by decide +kernel) (pda_cons (pa_cons (pd_var (pv 1)) pda_nil))))))))))))) ?_
  intro ds Q B hl h
  obtain ⟨xs, hd, hx, hk, hB, hA⟩ := h
  have main : ∀ (v : D), dLoop (gN 2) (dSeq (dIf (dNot (dCall 1 sIsName (dCons (dV 2) dNil))) (dRaise "InvalidName" ["value"] (dCons (dV 2) dNil)) dNext) (dIf (dInO true (dV 2) 1) (dExpr (dApp 1 (dCons (dV 2) dNil))) dNext)) xs
      { nx := dRet (dF (dFnO fnSortS (dCons (dV 1) dNil))) { nx := fun x => Q D.non, rt := fun x => Q, bk := fun x => False, ct := fun x => False, xx := fun x => B }, rt := fun x => Q, bk := fun x => False, ct := fun x => False, xx := fun x => B } [Sl.d v, Sl.o (Ow.l []), Sl.no] := by
    intro v
    refine ⟨fun i ρ => ∃ (y : Sl) (ys : List Str), ρ = [.d v, .o (.l (ys.map D.str)), y] ∧ Mid xs i ys, ⟨_, [], rfl, Mid.zero⟩, fun i x ρ hi hp => ?_, fun ρ hp => ?_⟩
    · obtain ⟨y, ys, rfl, m⟩ := hp
      walk_at "rr"
      refine ⟨x, rfl, hk x (List.mem_of_getElem? hi), _, rfl, ?_⟩
      cases hn : isNmD x with
      | false => exact (if_pos rfl).mpr (hB x (m.bad hi hn))
      | true =>
        obtain ⟨z, rfl⟩ := nmD_str hn
        refine (if_neg (by decide)).mpr ⟨rfl, okD_lstS ys, ?_⟩
        rw [inD_strs]
        by_cases hz : z ∈ ys
        · rw [if_neg (by simp [hz])]
          exact ⟨_, ys, rfl, rfl, m.old hi hn hz⟩
        · rw [if_pos (by simp [hz])]
          have := m.len
          refine ⟨by omega, _, ys ++ [z], ?_, rfl, m.new hi hn hz⟩
          rw [List.map_append]
          rfl
    · obtain ⟨y, ys, rfl, m⟩ := hp
      walk_at "rr"
      have hlen := m.len
      obtain ⟨zs, ez, hz, hm, hd'⟩ := m.ex
      rw [List.take_length] at ez
      refine ⟨ys, rfl, by omega, fun ys' hp hs => ?_⟩
      have es : ys' = srt zs := srt_eq hs (hp.nodup_iff.mpr hd') fun k => hp.mem_iff.trans (hm k)
      subst es
      exact hA zs ez hz
  rcases hd with rfl | rfl
  · walk_at "rr"
    exact main _
  · walk_at "rr"
    exact main _
theorem ok_Label_init (T : Txt P K mg) : FnR P w K mg base (L2.CX P w) 4 (He.fAd K d_Label_init.at_) (spIS K "Label" sLab) := by
  obtain ⟨fd, F⟩ := T.dfn 3 (d := d_Label_init)
  refine fnr_IS (k := 3) (m := 3) F sc_Label_init rfl (fun _ _ _ _ _ _ _ => rfl) (fun _ _ _ _ _ _ _ _ _ => rfl) (fun cdv A outer s H E hr => (psd_cons (pss_cons (psd_set (ps_set (i := 2) sc_Label_init.nd rfl (Or.inl rfl) (pd_call (pe_oX (ok_marks_in_order T) (T.glo 13) (b_marks_in_order) gd_false (hr.mono (by omega)) rfl (takes_of rfl rfl rfl rfl) (pda_cons (pa_cons (pd_var (pv 1)) pda_nil))))))
      (psd_cons (pss_cons (psd_if (ps_if (ptd_op od_gt (pt_cmpR op_gtA (pd_fn cd_len (pe_callB call_lenA rfl (T.free 42) (by decide +kernel) (pda_cons (pa_cons (pd_var (pv 2)) pda_nil)))) (pd_cval (C := "Label") (read_Label T) (cval_Label_MOST T).choose_spec (fun _ _ => .int _) (ClX.pe_cval (pd_c (pe_gr rfl (T.glo 14)) (fun _ _ => .cls _)))) (nomark _))) (pss_one (psd_raise (nm := "TooMany") (ps_raise rfl (takes_of rfl rfl rfl rfl) (Ab.pmk_x (m_TooMany T) (by decide) (hr.mono (by omega)) rfl (pda_cons (pa_cons pd_str (pda_cons (pa_cons (pd_cval (C := "Label") (read_Label T) (cval_Label_MOST T).choose_spec (fun _ _ => .int _) (ClX.pe_cval (pd_c (pe_gr rfl (T.glo 14)) (fun _ _ => .cls _)))) pda_nil)))))))) psd_nil))
      (pss_one (psd_stF (cl := ["Label"]) (fld_own_marks T) (ps_fld (pv 0) (pd_fn cd_tup (pe_callTy call_tuple_of rfl (T.free 40) (by decide +kernel) (pda_cons (pa_cons (pd_var (pv 2)) pda_nil)))) rfl)))))))) ?_
  intro ds Q B hl h
  obtain ⟨xs, rfl, hx, hk, hB, hA⟩ := h
  walk_at "rr"
  refine ⟨xs, .inl rfl, hx, hk, hB, fun zs ez hz => ?_⟩
  walk_at "rr"
  obtain ⟨h1, h2⟩ := hA zs ez hz
  by_cases h4 : (srt zs).length ≤ 4
  · rw [if_neg (by omega)]
    exact ⟨by decide, h1 h4⟩
  · rw [if_pos (by omega)]
    exact h2 (by omega)
def sLen : DSp := fun ds A _ => ∃ ms, ds = [labD ms] ∧ A (.int (ms.length : Int))
theorem ok_Label_len (T : Txt P K mg) : Fo false P w K mg base (L2.CX P w) 1 d_Label_len ["self"] (spD K 1 sLen) := by
  obtain ⟨fd, F⟩ := T.dfn 7 (d := d_Label_len)
  refine fo_mk (k := 0) (m := 1) F sc_Label_len rfl rfl (fun cdv A outer s H E hg hr => (pss_one (psd_ret (ps_ret (pd_fn cd_len (pe_callB call_lenA rfl (T.free 42) (by decide +kernel) (pda_cons (pa_cons (pd_fld (cl := ["Label"]) (fld_own_marks T) (pe_fld (pd_var (pv 0)) rfl)) pda_nil)))))))) ?_
  intro ds Q B hl h
  obtain ⟨ms, rfl, hA⟩ := h
  walk_at "rr"
  exact hA
def sMarks : DSp := fun ds A _ => ∃ ms, ds = [labD ms] ∧ A (.tup (ms.map D.str))
/-- v in label -/
def inLabD (ms : List Str) : D → Bool
  | .str z => decide (z ∈ ms)
  | _ => false
def sIn : DSp := fun ds A _ => ∃ ms x, ds = [labD ms, x] ∧ okS x ∧ A (.bl (inLabD ms x))
theorem ok_Label_contains (T : Txt P K mg) : Fo false P w K mg base (L2.CX P w) 1 d_Label_contains ["self", "mark"] (spD K 2 sIn) := by
  obtain ⟨fd, F⟩ := T.dfn 6 (d := d_Label_contains)
  refine fo_mk (k := 0) (m := 2) F sc_Label_contains rfl rfl (fun cdv A outer s H E hg hr => (pss_one (psd_ret (ps_ret (pd_and (pe_and (pd_fn (cd_isStr (own_ok T)) (pe_callB call_isi rfl (T.free 41) (by decide +kernel) (pda_cons (pa_cons (pd_var (pv 1)) (pda_cons (pa_cons (pd_c (pe_bltn (v := .ty "str") rfl (T.free 47) (by decide +kernel) rfl) (fun _ _ => .ty _)) pda_nil)))))) (pe_one (pd_op (od_in (neg := false)) (pe_cmpR (op_inA hr.units) (pd_var (pv 1)) (pd_fld (cl := ["Label"]) (fld_own_marks T) (pe_fld (pd_var (pv 0)) rfl)) (by rfl)))))))))) ?_
  intro ds Q B hl h
  obtain ⟨ms, x, rfl, ⟨hk, hz⟩, hA⟩ := h
  cases x with
  | str z =>
    walk_at "rr"
    refine ⟨okD_tupS ms, ?_⟩
    rw [inD_strs]
    exact hA
  | _ => walk_at "rr"; first | exact hA | exact ⟨hk, hA⟩ | exact ⟨of_decide_eq_true hk, hA⟩ | exact absurd hk (by decide)
def sStr : DSp := fun ds A _ => ∃ ms, ds = [labD ms] ∧ LabM ms ∧ A (.str (if ms = [] then "-" else Txt.join "+" ms))
theorem ok_Label_str (T : Txt P K mg) : Fo false P w K mg base (L2.CX P w) 1 d_Label_str ["self"] (spD K 1 sStr) := by
  obtain ⟨fd, F⟩ := T.dfn 8 (d := d_Label_str)
  refine fo_mk (k := 0) (m := 1) F sc_Label_str rfl rfl (fun cdv A outer s H E hg hr => (psd_cons (pss_cons (psd_if (ps_if (ptd_op (od_eq (neg := false)) (pt_cmpR (op_eqP hr.units) (pd_fld (cl := ["Label"]) (fld_own_marks T) (pe_fld (pd_var (pv 0)) rfl)) (pd_tup (pe_tup pda_nil)) (nomark _))) (pss_one (psd_ret (ps_ret pd_str))) psd_nil))
      (pss_one (psd_ret (ps_ret (pd_m1 md_join (pe_join pd_str (pd_fld (cl := ["Label"]) (fld_own_marks T) (pe_fld (pd_var (pv 0)) rfl)))))))))) ?_
  intro ds Q B hl h
  obtain ⟨ms, rfl, hM, hA⟩ := h
  walk_at "rr"
  refine ⟨okD_tupS ms, ?_⟩
  cases ms with
  | nil => exact hA
  | cons m ms =>
    refine (if_neg (fun z => by cases z)).mpr ⟨m :: ms, rfl, ?_, ?_⟩
    · have := sum_le (b := 8) (zs := m :: ms) fun z hz => nm_len (hM.2.1 z hz)
      have e1 : (Str.ofString "+").length = 1 := by decide
      have := hM.1
      rw [e1]
      omega
    · rw [if_neg (by simp)] at hA
      exact hA
def labT (ms : List Str) : Str := Str.empty ++ "Label(" ++ Txt.join ", " (ms.map reprText) ++ ")"
def sRepr : DSp := fun ds A _ => ∃ ms, ds = [labD ms] ∧ LabM ms ∧ A (.str (labT ms))
theorem ok_Label_repr (T : Txt P K mg) : Fo false P w K mg base (L2.CX P w) 1 d_Label_repr ["self"] (spD K 1 sRepr) := by
  obtain ⟨fd, F⟩ := T.dfn 9 (d := d_Label_repr)
  refine fo_mk (k := 0) (m := 3) F sc_Label_repr rfl rfl (fun cdv A outer s H E hg hr => (psd_cons (pss_cons (psd_set (ps_set (i := 1) sc_Label_repr.nd rfl (Or.inl rfl) (pd_m1 md_join (pe_join pd_str (pd_frz (pdo_lc (pe_lc (own := [("mark", 2)]) rfl sc_Label_repr.nd (pid_tup (pi_tup (pd_fld (cl := ["Label"]) (fld_own_marks T) (pe_fld (pd_var (pv 0)) rfl)))) (blkOk_by (own := [("mark", 2)]) (N := N_Label_repr) (sc := defScope s_Label_repr) (by decide +kernel)) (fun _ _ _ _ _ => (pgd_name (vs := [2]) (pg_name (i := 2) sc_Label_repr.nd rfl (Or.inl rfl)))) (fun _ _ _ _ _ => pts_nil) (fun _ _ _ _ _ => (pd_fn cd_reprS (pe_callB Ab.call_repr_str rfl (T.free 48) (by decide +kernel) (pda_cons (pa_cons (pd_var (pv 2)) pda_nil))))))))))))
      (pss_one (psd_ret (ps_ret (pd_joined [_, _, _] (pe_joined (PJ.cons pd_str (PJ.cons (pd_fmt (pe_fmt (pd_var (pv 1)))) (PJ.cons pd_str PJ.nil))))))))))) ?_
  intro ds Q B hl h
  obtain ⟨ms, rfl, hM, hA⟩ := h
  walk_at "rr"
  have sml : ∀ z ∈ ms, (reprText z).length ≤ 100 := fun z hz => nm_repr (hM.2.1 z hz)
  refine lc_mapG ms D.str (fun z => .str (reprText z)) (by have := hM.1; omega) (fun z hz Q h => ?_) ?_
  · walk_at "rr"
    exact ⟨Nat.le_trans (sml z hz) (by decide), h⟩
  · have em : ms.map (fun z => D.str (reprText z)) = (ms.map reprText).map D.str := by rw [List.map_map]; rfl
    rw [em]
    have jl := join_small (l := ms.map reprText) (by rw [List.length_map]; exact hM.1) fun z hz => by
      obtain ⟨y, hy, rfl⟩ := List.mem_map.mp hz
      exact sml y hy
    have b0 : (cs (Str.empty ++ Str.ofString "Label(")).length ≤ 10 := by decide +kernel
    have b1 : (cs (Str.ofString ")")).length ≤ 1 := by decide +kernel
    have j2 := jl.2
    rw [cs_len] at j2
    refine ⟨_, .inl rfl, jl.1, by decide +kernel, .inl ⟨_, rfl, by omega, by omega, ?_, hA⟩⟩
    rw [cs_app_len]
    omega
/-- label == v -/
def eqLabD (ms : List Str) : D → Bool
  | .obj C fs => match fs with
    | [(f, .tup l)] => C == "Label" && (f == "own_marks" && eqL (ms.map D.str) l)
    | _ => false
  | _ => false
def sEq : DSp := fun ds A _ => ∃ ms y, ds = [labD ms, y] ∧ kn own y = true ∧ ((∃ ns, y = labD ns ∧ A (.bl (decide (ms = ns)))) ∨ ((∀ C fs, y ≠ .obj C fs) ∧ A (.bl false)))
theorem ok_Label_eq (T : Txt P K mg) : Fo false P w K mg base (L2.CX P w) 1 d_Label_eq ["self", "other"] (spD K 2 sEq) := by
  obtain ⟨fd, F⟩ := T.dfn 10 (d := d_Label_eq)
  refine fo_mk (k := 0) (m := 2) F sc_Label_eq rfl rfl (fun cdv A outer s H E hg hr => (pss_one (psd_ret (ps_ret (pd_and (pe_and (pd_fn (cd_isO (own_ok T) "Label" (by decide)) (pe_callB call_isi rfl (T.free 41) (by decide +kernel) (pda_cons (pa_cons (pd_var (pv 1)) (pda_cons (pa_cons (pd_c (pe_gr rfl (T.glo 14)) (fun _ _ => .cls _)) pda_nil)))))) (pe_one (pd_op (od_eq (neg := false)) (pe_cmpR (op_eqP hr.units) (pd_fld (cl := ["Label"]) (fld_own_marks T) (pe_fld (pd_var (pv 0)) rfl)) (pd_fld (cl := ["Label"]) (fld_own_marks T) (pe_fld (pd_var (pv 1)) rfl)) (nomark _)))))))))) ?_
  intro ds Q B hl h
  obtain ⟨ms, y, rfl, hk, hy⟩ := h
  rcases hy with ⟨ns, rfl, hA⟩ | ⟨hn, hA⟩
  · walk_at "rr"
    have e : osub "Label" "Label" = true := by decide +kernel
    refine ⟨of_decide_eq_true hk, (if_pos e).mpr ⟨okD_tupS ms, okD_tupS ns, ?_⟩⟩
    have e2 : eqD (.tup (ms.map D.str)) (.tup (ns.map D.str)) = decide (ms = ns) := eqL_strs ms ns
    rw [e2]
    exact hA
  · cases y with
    | obj C fs => exact absurd rfl (hn C fs)
    | _ => walk_at "rr"; first | exact hA | exact ⟨hk, hA⟩ | exact absurd hk (by decide)
end
end L12

set_option Elab.async false
set_option linter.all false
set_option maxRecDepth 100000
set_option maxHeartbeats 4000000
namespace L12
open PySem PySem.Spec PyProof.Rows L2 Ab
local macro_rules | `(tactic| walk_at "rr") => `(tactic| simp only [endsF, endsI, rho0, rhoI, List.map_cons, List.map_nil, List.length_cons, List.length_nil, List.replicate_succ, List.replicate_zero, List.cons_append, List.nil_append, Nat.reduceSub, Nat.reduceAdd, Nat.zero_add,
  dV_eq, dVat_d, gT_two, gT_three, dVat_o, Ab.okD_int, Ab.okD_bl, Ab.okD_non, Ab.okD_str, Ab.okD_tup0, Ab.okD_lst0, Ab.eqD_int, Ab.eqD_bl, Ab.eqD_str, dC, dOp, dUn, dChain, dAnd, dOr, dNot, dIfE, dNil, dCons, dTup, dLst, dF, dNext, dSeq, dBrk, dCnt, dExpr, dRet, dRetN, dIf, dSet, dSetO, dPar, dPar3, gN, dAsg, dFor, dItL, dItT, dItS, dItA, dR1, dR2, dComp, wipeR, dCall, dFn, dFnO, dSl, dNoP, dP, dM1, dM0, dSplit, dApp, dPop, dInO, dLenO, dSortSet, dFld, dStF, dMake, dMakeP, dMakeS, dMakeV, dProp, dCMeth, dCVal, dRaise, dTry, dHnd, endsX, offX, dXf, dIsX, dIsXB, dIsXT, dDnew, dFmt, dJs, dJoined, dCallK,
  pyIsN, pyEq, pyJoin, pyInO, fnAll, fnAny, fnAbs, fnMax, fnMin, fnStrI, fnSortS, fnIsi, fnIsO, fnRepr, fnReprS, fnLenO, fnStrO, Ab.Ow_d_l, Ab.Ow_d_i, Ab.Ow_d_m, Ab.pyAdd_i, Ab.pyAdd_s, Ab.pyAdd_l, Ab.pyAdd_t, Ab.pySub_i, Ab.pyMul_i, Ab.pyMul_s, Ab.pyMod_i, Ab.pyFdv_i, Ab.pyPow_i, Ab.pyLt_i, Ab.pyLt_s, Ab.pyLe_i, Ab.pyLe_s, Ab.pyGt_i, Ab.pyGt_s, Ab.pyGe_i, Ab.pyGe_s, Ab.pyNeg_i, Ab.pyIn_l, Ab.pyIn_t, Ab.pyIn_s, Ab.pyIx_l, Ab.pyIx_t, Ab.pyIx_s, Ab.pySl_s, Ab.pySl_t, Ab.pySl_l, Ab.pyUpper_s, Ab.pyLower_s, Ab.pyEqO_o, Ab.pyEqO_rnon, Ab.pyEqO_rbl, Ab.pyEqO_rint, Ab.pyEqO_rstr, Ab.pyEqO_rlst, Ab.pyEqO_rtup, Ab.pyEqO_rdict, Ab.fnLen_s, Ab.fnLen_l, Ab.fnLen_t, Ab.fnLen_d, Ab.fnTup_l, Ab.fnTup_t, Ab.fnList_l, Ab.fnList_t,
  Ab.isNon_non, Ab.isNon_bl, Ab.isNon_int, Ab.isNon_str, Ab.isNon_lst, Ab.isNon_tup, Ab.isNon_dict, Ab.isNon_obj, Ab.isNon_rng, Ab.isStrD_non, Ab.isStrD_bl, Ab.isStrD_int, Ab.isStrD_str, Ab.isStrD_lst, Ab.isStrD_tup, Ab.isStrD_dict, Ab.isStrD_obj, Ab.isStrD_rng, Ab.isIntD_non, Ab.isIntD_bl, Ab.isIntD_int, Ab.isIntD_str, Ab.isIntD_lst, Ab.isIntD_tup, Ab.isIntD_dict, Ab.isIntD_obj, Ab.isIntD_rng, Ab.isBlD_non, Ab.isBlD_bl, Ab.isBlD_int, Ab.isBlD_str, Ab.isBlD_lst, Ab.isBlD_tup, Ab.isBlD_dict, Ab.isBlD_obj, Ab.isBlD_rng, Ab.isLstD_non, Ab.isLstD_bl, Ab.isLstD_int, Ab.isLstD_str, Ab.isLstD_lst, Ab.isLstD_tup, Ab.isLstD_dict, Ab.isLstD_obj, Ab.isLstD_rng, Ab.isTupD_non, Ab.isTupD_bl, Ab.isTupD_int, Ab.isTupD_str, Ab.isTupD_lst, Ab.isTupD_tup, Ab.isTupD_dict, Ab.isTupD_obj, Ab.isTupD_rng, Ab.isDicD_non, Ab.isDicD_bl, Ab.isDicD_int, Ab.isDicD_str, Ab.isDicD_lst, Ab.isDicD_tup, Ab.isDicD_dict, Ab.isDicD_obj, Ab.isDicD_rng, Ab.kn_non, Ab.kn_bl, Ab.kn_int, Ab.kn_str, Ab.kn_lst, Ab.kn_tup, Ab.kn_dict, Ab.kn_obj, Ab.kn_rng, Ab.tyOf_non, Ab.tyOf_bl, Ab.tyOf_int, Ab.tyOf_str, Ab.tyOf_lst, Ab.tyOf_tup, Ab.tyOf_dict, Ab.tyOf_rng, Ab.isObjD_obj, Ab.isObjD_non, Ab.isObjD_bl, Ab.isObjD_int, Ab.isObjD_str, Ab.isObjD_lst, Ab.isObjD_tup, Ab.isObjD_dict, Ab.isObjD_rng,
  D.int.injEq, D.str.injEq, D.bl.injEq, D.lst.injEq, D.tup.injEq, D.obj.injEq, D.ty.injEq, D.cls.injEq, Sl.d.injEq, Sl.o.injEq, Sl.x.injEq, Ow.l.injEq, Ow.i.injEq, Ow.m.injEq, List.cons.injEq, Bool.not_eq_true', decide_eq_true_eq, decide_eq_false_iff_not, if_true, if_false, Bool.not_true, Bool.not_false, Bool.false_eq_true, not_true_eq_false, not_false_eq_true, and_assoc, and_true, true_and, exists_eq_left', exists_eq_left, exists_eq_right, exists_eq, exists_and_left, exists_eq_right_right, reduceCtorEq, false_and, and_false, exists_false, exists_const, or_false, false_or,
  List.getElem?_cons_zero, List.getElem?_cons_succ, Option.some.injEq, List.set_cons_zero, List.set_cons_succ, List.getElem?_nil, List.set_nil, true_implies, forall_const, List.length_map, List.mem_singleton, eq_self, List.lookup_cons_self, Nat.zero_le, exists_eq', Nat.reduceLeDiff])
section
variable {P : Program} {w : World} {K : PySem.W.Frag} {mg : Str → Option Value} {base : Heap}
theorem okg_Label_marks (T : Txt P K mg) : okG K d_Label_marks = true := (He.ba (lab_B4 T)).1
theorem okg_Label_of_text (T : Txt P K mg) : okG K d_Label_of_text = true := (He.ba (He.ba (He.ba (lab_B4 T)).2).2).1
theorem ok_Label_marks (T : Txt P K mg) : ∃ fd, Fq false P w K mg base (L2.CX P w) 1 (gAd K d_Label_marks.at_) fd ["self"] (spD K 1 sMarks) ∧ Bw K fd ["self"] 1 [] gPos ∧ Binds K fd ["self"] [] := by
  obtain ⟨fd, F⟩ := T.zfn 1 (d := d_Label_marks) (okg_Label_marks T)
  refine ⟨fd, fq_mk (k := 0) (m := 1) F sc_Label_marks rfl rfl (fun cdv A outer s H E hg hr => (pss_one (psd_ret (ps_ret (pd_fld (cl := ["Label"]) (fld_own_marks T) (pe_fld (pd_var (pv 0)) rfl)))))) ?_, b_Label_marks fd F, ?_⟩
  rotate_left
  · intro s us _ hl
    rw [List.append_nil] at hl ⊢
    exact L2.FunD.bindsA (ps := ["self"]) F (fun _ _ _ _ _ _ us hl => match us, hl with | [_], _ => rfl) s us hl
  intro ds Q B hl h
  obtain ⟨ms, rfl, hA⟩ := h
  walk_at "rr"
  exact hA
theorem pe_Label_marks {X : Cx} {e : Expr} {ta : TE} {pos : Pos} (T : Txt X.prog X.K X.mg) (hr : Room 2 X.A) (he : PE X e ta) (hab : attributeBase e "marks" X.env (eval e X.env) = eval e X.env := by rfl) : PE X (.Attribute e "marks" pos) (tProp (He.ga X.K "Label") (noE (spD X.K 1 sMarks)) [] E0 ta) := by
  obtain ⟨fd, F, hb, hB⟩ := ok_Label_marks (P := X.prog) (w := X.w) (base := X.base) T
  obtain ⟨p, hp⟩ := propB_ok (He.ba (He.ba (lab_B4 T)).2).1
  exact pe_prop he (fld_own_marks T "Label" (List.mem_singleton.mpr rfl)).1 hp F.cx0.fnok hr hB .nil (fun _ _ _ _ _ _ _ z => z) hab
theorem okS_str {z : Str} (h : (cs z).length ≤ 1000000) : okS (.str z) := ⟨rfl, fun y e => by cases e; exact h⟩
/-- the marks that a text tells -/
def mtx (z : Str) : List Str := if z = "-" then [] else prt z
def okTx (z : Str) : Bool := decide ((mtx z).length ≤ 4) && ((mtx z).all nmS && decide (mtx z = srt (mtx z)))
def sOfT : DSp := fun ds A B => ∃ x, ds = [.cls "Label", x] ∧ okS x ∧ (isStrD x = false → B (xText "string")) ∧ ∀ z, x = .str z → (cs z).length ≤ 900 ∧ pls z ≤ 50 ∧ (okTx z = false → B (xText "label")) ∧ (okTx z = true → A (labD (mtx z)))
theorem ok_Label_of_text (T : Txt P K mg) : ∃ fd, Fq false P w K mg base (L2.CX P w) 6 (gAd K d_Label_of_text.at_) fd ["cls", "text"] (spD K 2 sOfT) ∧ Bw K fd ["cls", "text"] 2 [] gPos ∧ Binds K fd ["cls", "text"] [] := by
  obtain ⟨fd, F⟩ := T.zfn 0 (d := d_Label_of_text) (okg_Label_of_text T)
  refine ⟨fd, fq_mk (k := 5) (m := 4) F sc_Label_of_text rfl rfl (fun cdv A outer s H E hg hr => (psd_cons (pss_cons (psd_if (ps_if (ptd_not (pt_not (pt_val (pd_fn (cd_isStr (own_ok T)) (pe_callB call_isi rfl (T.free 41) (by decide +kernel) (pda_cons (pa_cons (pd_var (pv 1)) (pda_cons (pa_cons (pd_c (pe_bltn (v := .ty "str") rfl (T.free 47) (by decide +kernel) rfl) (fun _ _ => .ty _)) pda_nil))))))))) (pss_one (psd_raise (nm := "InvalidText") (ps_raise rfl (takes_of rfl rfl rfl rfl) (Ab.pmk_x (m_InvalidText T) (by decide) (hr.mono (by omega)) rfl (pda_cons (pa_cons pd_str pda_nil)))))) psd_nil))
      (psd_cons (pss_cons (psd_set (ps_set (i := 2) sc_Label_of_text.nd rfl (Or.inl rfl) (pd_ifE (pe_ifExp (ptd_op (od_eq (neg := false)) (pt_cmpR (op_eqP hr.units) (pd_var (pv 1)) (pd_c (pe_gs rfl (T.str 11)) (fun _ _ => .str _)) (nomark _))) (pd_frz (pdo_lst (pe_lst pda_nil))) (pd_frz (pdo_split (pe_split (pd_var (pv 1)) (pd_c (pe_gs rfl (T.str 10)) (fun _ _ => .str _)))))))))
      (psd_cons (pss_cons (psd_if (ps_if (PW.pt (pwd_or (pw_or (ptd_op od_gt (pt_cmpR op_gtA (pd_fn cd_len (pe_callB call_lenA rfl (T.free 42) (by decide +kernel) (pda_cons (pa_cons (pd_var (pv 2)) pda_nil)))) (pd_cval (C := "Label") (read_Label T) (cval_Label_MOST T).choose_spec (fun _ _ => .int _) (ClX.pe_cval (pd_var (pv 0)))) (nomark _))) (pwd_or (pw_or (ptd_not (pt_not (pt_val (pd_fn cd_all (pe_callB (cr_all rfl) rfl (T.free 37) (by decide +kernel) (pda_cons (pa_cons (pd_frz (pdo_lc (pe_lc (own := [("mark", 3)]) rfl sc_Label_of_text.nd (pid_list (pi_list (pd_var (pv 2)))) (blkOk_by (own := [("mark", 3)]) (N := N_Label_of_text) (sc := defScope s_Label_of_text) (by decide +kernel)) (fun _ _ _ _ _ => (pgd_name (vs := [3]) (pg_name (i := 3) sc_Label_of_text.nd rfl (Or.inl rfl)))) (fun _ _ _ _ _ => pts_nil) (fun _ _ _ _ _ => (pd_call (pe_oX (ok_is_name T) (T.glo 9) (b_is_name) gd_false (hr.mono (by omega)) rfl Ab.takes_no (pda_cons (pa_cons (pd_var (pv 3)) pda_nil)))))))) pda_nil))))))) (pw_or1 (ptd_op (od_eq (neg := true)) (pt_cmpR (op_neP hr.units) (pd_var (pv 2)) (pd_call (pe_oX (ok_marks_in_order T) (T.glo 13) (b_marks_in_order) gd_false (hr.mono (by omega)) rfl (takes_of rfl rfl rfl rfl) (pda_cons (pa_cons (pd_var (pv 2)) pda_nil)))) (nomark _))))))))) (pss_one (psd_raise (nm := "InvalidText") (ps_raise rfl (takes_of rfl rfl rfl rfl) (Ab.pmk_x (m_InvalidText T) (by decide) (hr.mono (by omega)) rfl (pda_cons (pa_cons pd_str pda_nil)))))) psd_nil))
      (pss_one (psd_ret (ps_ret (pd_makeV (C := "Label") (Ab.pe_makeVX (mk_Label T) (ok_Label_init T) (hr.mono (by omega)) (pd_var (pv 0)) (takes_of rfl rfl rfl rfl) (pd_var (pv 2)))))))))))))) ?_, b_Label_of_text fd F, ?_⟩
  rotate_left
  · intro s us _ hl
    rw [List.append_nil] at hl ⊢
    exact L2.FunD.bindsA (ps := ["cls", "text"]) F (fun _ _ _ _ _ _ us hl => match us, hl with | [_, _], _ => rfl) s us hl
  intro ds Q B hl h
  obtain ⟨x, rfl, ⟨hk, hz⟩, hN, hZ⟩ := h
  cases x with
  | str z =>
    obtain ⟨h1, h2, hB, hA⟩ := hZ z rfl
    walk_at "rr"
    by_cases ez : z = Str.ofString "-"
    case' pos =>
      have em : mtx z = [] := if_pos ez
      have ml : ∀ m ∈ mtx z, (cs m).length ≤ 900 := by rw [em]; exact nofun
      rw [if_pos ez, if_neg (by decide)]
      have l4 : (mtx z).length ≤ 4 := by rw [em]; decide
      have e1 : ∀ we A ρ, dLc [3] (gN 3) dYes we [] A ρ = dLc [3] (gN 3) dYes we ((mtx z).map D.str) A ρ := by rw [em]; intros; rfl
      have e0 : D.lst [] = D.lst ((mtx z).map D.str) := by rw [em]; rfl
      rw [e1, e0]
    case' neg =>
      have em : mtx z = Txt.split z "+" := if_neg ez
      have ml : ∀ m ∈ mtx z, (cs m).length ≤ 900 := by rw [em]; exact fun m hm => Nat.le_trans (prt_short z m hm) h1
      rw [if_neg ez]
      refine ⟨by decide +kernel, by omega, ?_⟩
      have e1 : Txt.split z (Str.ofString "+") = mtx z := em.symm
      rw [e1]
      by_cases l4 : (mtx z).length ≤ 4
      case' neg =>
        rw [if_pos (by omega)]
        exact hB (by unfold okTx; rw [decide_eq_false l4]; rfl)
      case' pos => rw [if_neg (by omega)]
    all_goals
      refine lc_mapG (mtx z) D.str (fun m => .bl (nmS m)) (by omega) (fun m hm Q h => ?_) ?_
      · walk_at "rr"
        exact ⟨_, rfl, okS_str (Nat.le_trans (ml m hm) (by decide)), h⟩
      · walk_at "rr"
        refine ⟨(mtx z).map nmS, by rw [List.map_map]; rfl, ?_⟩
        rw [all_map_id]
        by_cases ha : (mtx z).all nmS = true
        · rw [if_neg (by rw [ha]; decide)]
          have hn : ∀ m ∈ mtx z, nmS m = true := fun m hm => List.all_eq_true.mp ha m hm
          have nb : ∀ (B : D → Prop), ∀ v, badD ((mtx z).map D.str) = some v → B v := fun B v hv => by
            rw [bad_none hn] at hv
            cases hv
          have okx : ∀ x ∈ (mtx z).map D.str, okS x := fun x hx => by
            obtain ⟨m, hm, rfl⟩ := List.mem_map.mp hx
            exact okS_str (Nat.le_trans (ml m hm) (by decide))
          refine ⟨_, .inr rfl, by rw [List.length_map]; omega, okx, fun v hv => nb (fun v => B (xName v)) v hv, fun zs ez hz => ?_⟩
          have := map_str_inj ez
          subst this
          walk_at "rr"
          refine ⟨okD_lstS _, okD_lstS _, ?_⟩
          rw [eqD_lstS]
          by_cases hk : mtx z = srt (mtx z)
          · rw [if_neg (by rw [decide_eq_true hk]; decide)]
            refine ⟨by omega, _, rfl, by rw [List.length_map]; omega, okx, fun v hv => nb (fun v => B (xName v)) v hv, fun zs ez hz => ?_⟩
            have := map_str_inj ez
            subst this
            rw [← hk]
            exact ⟨fun _ => hA (by unfold okTx; rw [ha, decide_eq_true hk, decide_eq_true l4]; rfl), fun h => by omega⟩
          · rw [if_pos (decide_eq_false hk)]
            exact hB (by unfold okTx; rw [decide_eq_false hk, Bool.and_false, Bool.and_false])
        · have ha' : (mtx z).all nmS = false := by simpa using ha
          rw [if_pos ha']
          exact hB (by unfold okTx; rw [ha', Bool.false_and, Bool.and_false])
  | _ => walk_at "rr"; first | exact hN rfl | exact ⟨hk, hN rfl⟩ | exact ⟨of_decide_eq_true hk, hN rfl⟩ | exact absurd hk (by decide)
theorem spc_Label_len (T : Txt P K mg) : Spc false P w K mg base 1 (He.ga K "Label") "__len__" 1 (noE (spD K 1 sLen)) := by
  obtain ⟨m1, m2⟩ := He.ba (show (He.Fa.meth "Label" "__len__").ok K = true from T.fact 56)
  exact spc_mk (ok_Label_len T) b_Label_len m1 (He.ba m2).1
theorem spc_Label_contains (T : Txt P K mg) : Spc false P w K mg base 1 (He.ga K "Label") "__contains__" 2 (noE (spD K 2 sIn)) := by
  obtain ⟨m1, m2⟩ := He.ba (show (He.Fa.meth "Label" "__contains__").ok K = true from T.fact 57)
  exact spc_mk (ok_Label_contains T) b_Label_contains m1 (He.ba m2).1
theorem spc_Label_str (T : Txt P K mg) : Spc false P w K mg base 1 (He.ga K "Label") "__str__" 1 (noE (spD K 1 sStr)) := by
  obtain ⟨m1, m2⟩ := He.ba (show (He.Fa.meth "Label" "__str__").ok K = true from T.fact 55)
  exact spc_mk (ok_Label_str T) b_Label_str m1 (He.ba m2).1
theorem spc_Label_repr (T : Txt P K mg) : Spc false P w K mg base 1 (He.ga K "Label") "__repr__" 1 (noE (spD K 1 sRepr)) := by
  obtain ⟨m1, m2⟩ := He.ba (show (He.Fa.meth "Label" "__repr__").ok K = true from T.fact 54)
  exact spc_mk (ok_Label_repr T) b_Label_repr m1 (He.ba m2).1
theorem spc_Label_eq (T : Txt P K mg) : Spc false P w K mg base 1 (He.ga K "Label") "__eq__" 2 (noE (spD K 2 sEq)) := by
  obtain ⟨m1, m2⟩ := He.ba (show (He.Fa.meth "Label" "__eq__").ok K = true from T.fact 58)
  exact spc_mk (ok_Label_eq T) b_Label_eq m1 (He.ba m2).1
end
end L12

set_option Elab.async false
set_option linter.all false
set_option maxRecDepth 100000
set_option maxHeartbeats 4000000
namespace L12
open PySem PySem.Spec PyProof.Rows L2 Ab
local macro_rules | `(tactic| walk_at "rr") => `(tactic| simp only [endsF, endsI, rho0, rhoI, List.map_cons, List.map_nil, List.length_cons, List.length_nil, List.replicate_succ, List.replicate_zero, List.cons_append, List.nil_append, Nat.reduceSub, Nat.reduceAdd, Nat.zero_add,
  dV_eq, dVat_d, gT_two, gT_three, dVat_o, Ab.okD_int, Ab.okD_bl, Ab.okD_non, Ab.okD_str, Ab.okD_tup0, Ab.okD_lst0, Ab.eqD_int, Ab.eqD_bl, Ab.eqD_str, dC, dOp, dUn, dChain, dAnd, dOr, dNot, dIfE, dNil, dCons, dTup, dLst, dF, dNext, dSeq, dBrk, dCnt, dExpr, dRet, dRetN, dIf, dSet, dSetO, dPar, dPar3, gN, dAsg, dFor, dItL, dItT, dItS, dItA, dR1, dR2, dComp, wipeR, dCall, dFn, dFnO, dSl, dNoP, dP, dM1, dM0, dSplit, dApp, dPop, dInO, dLenO, dSortSet, dFld, dStF, dMake, dMakeP, dMakeS, dMakeV, dProp, dCMeth, dCVal, dRaise, dTry, dHnd, endsX, offX, dXf, dIsX, dIsXB, dIsXT, dDnew, dFmt, dJs, dJoined, dCallK,
  pyIsN, pyEq, pyJoin, pyInO, fnAll, fnAny, fnAbs, fnMax, fnMin, fnStrI, fnSortS, fnIsi, fnIsO, fnRepr, fnReprS, fnLenO, fnStrO, Ab.Ow_d_l, Ab.Ow_d_i, Ab.Ow_d_m, Ab.pyAdd_i, Ab.pyAdd_s, Ab.pyAdd_l, Ab.pyAdd_t, Ab.pySub_i, Ab.pyMul_i, Ab.pyMul_s, Ab.pyMod_i, Ab.pyFdv_i, Ab.pyPow_i, Ab.pyLt_i, Ab.pyLt_s, Ab.pyLe_i, Ab.pyLe_s, Ab.pyGt_i, Ab.pyGt_s, Ab.pyGe_i, Ab.pyGe_s, Ab.pyNeg_i, Ab.pyIn_l, Ab.pyIn_t, Ab.pyIn_s, Ab.pyIx_l, Ab.pyIx_t, Ab.pyIx_s, Ab.pySl_s, Ab.pySl_t, Ab.pySl_l, Ab.pyUpper_s, Ab.pyLower_s, Ab.pyEqO_o, Ab.pyEqO_rnon, Ab.pyEqO_rbl, Ab.pyEqO_rint, Ab.pyEqO_rstr, Ab.pyEqO_rlst, Ab.pyEqO_rtup, Ab.pyEqO_rdict, Ab.fnLen_s, Ab.fnLen_l, Ab.fnLen_t, Ab.fnLen_d, Ab.fnTup_l, Ab.fnTup_t, Ab.fnList_l, Ab.fnList_t,
  Ab.isNon_non, Ab.isNon_bl, Ab.isNon_int, Ab.isNon_str, Ab.isNon_lst, Ab.isNon_tup, Ab.isNon_dict, Ab.isNon_obj, Ab.isNon_rng, Ab.isStrD_non, Ab.isStrD_bl, Ab.isStrD_int, Ab.isStrD_str, Ab.isStrD_lst, Ab.isStrD_tup, Ab.isStrD_dict, Ab.isStrD_obj, Ab.isStrD_rng, Ab.isIntD_non, Ab.isIntD_bl, Ab.isIntD_int, Ab.isIntD_str, Ab.isIntD_lst, Ab.isIntD_tup, Ab.isIntD_dict, Ab.isIntD_obj, Ab.isIntD_rng, Ab.isBlD_non, Ab.isBlD_bl, Ab.isBlD_int, Ab.isBlD_str, Ab.isBlD_lst, Ab.isBlD_tup, Ab.isBlD_dict, Ab.isBlD_obj, Ab.isBlD_rng, Ab.isLstD_non, Ab.isLstD_bl, Ab.isLstD_int, Ab.isLstD_str, Ab.isLstD_lst, Ab.isLstD_tup, Ab.isLstD_dict, Ab.isLstD_obj, Ab.isLstD_rng, Ab.isTupD_non, Ab.isTupD_bl, Ab.isTupD_int, Ab.isTupD_str, Ab.isTupD_lst, Ab.isTupD_tup, Ab.isTupD_dict, Ab.isTupD_obj, Ab.isTupD_rng, Ab.isDicD_non, Ab.isDicD_bl, Ab.isDicD_int, Ab.isDicD_str, Ab.isDicD_lst, Ab.isDicD_tup, Ab.isDicD_dict, Ab.isDicD_obj, Ab.isDicD_rng, Ab.kn_non, Ab.kn_bl, Ab.kn_int, Ab.kn_str, Ab.kn_lst, Ab.kn_tup, Ab.kn_dict, Ab.kn_obj, Ab.kn_rng, Ab.tyOf_non, Ab.tyOf_bl, Ab.tyOf_int, Ab.tyOf_str, Ab.tyOf_lst, Ab.tyOf_tup, Ab.tyOf_dict, Ab.tyOf_rng, Ab.isObjD_obj, Ab.isObjD_non, Ab.isObjD_bl, Ab.isObjD_int, Ab.isObjD_str, Ab.isObjD_lst, Ab.isObjD_tup, Ab.isObjD_dict, Ab.isObjD_rng,
  D.int.injEq, D.str.injEq, D.bl.injEq, D.lst.injEq, D.tup.injEq, D.obj.injEq, D.ty.injEq, D.cls.injEq, Sl.d.injEq, Sl.o.injEq, Sl.x.injEq, Ow.l.injEq, Ow.i.injEq, Ow.m.injEq, List.cons.injEq, Bool.not_eq_true', decide_eq_true_eq, decide_eq_false_iff_not, if_true, if_false, Bool.not_true, Bool.not_false, Bool.false_eq_true, not_true_eq_false, not_false_eq_true, and_assoc, and_true, true_and, exists_eq_left', exists_eq_left, exists_eq_right, exists_eq, exists_and_left, exists_eq_right_right, reduceCtorEq, false_and, and_false, exists_false, exists_const, or_false, false_or,
  List.getElem?_cons_zero, List.getElem?_cons_succ, Option.some.injEq, List.set_cons_zero, List.set_cons_succ, List.getElem?_nil, List.set_nil, true_implies, forall_const, List.length_map, List.mem_singleton, eq_self, List.lookup_cons_self, Nat.zero_le, exists_eq', Nat.reduceLeDiff])
/-- what may be told: of a known kind, with a repr -/
def markB (x : D) : Bool := kn own x && ((match x with
  | .str z => decide ((cs z).length ≤ 100)
  | _ => true) && (okR (.tup [.str "name", x]) && (decide ((cs (shD (.tup [.str "name", x]))).length ≤ 100000))))
def poolOf (c : Nat) : List Str := [⟨#[c]⟩, ⟨#[c]⟩ ++ "a", repS ⟨#[c]⟩ 8, "b" ++ ⟨#[c]⟩, "z", ⟨#[c]⟩ ++ "ab", "label", "none"]
theorem pool_all : (List.range 26).all (fun k => match atI (cs (Str.ofString "abcdefghijklmnopqrstuvwxyz")) (k : Int) with
  | some c => (poolOf c).all nmS
  | none => false) = true := by decide +kernel
theorem pool_at {k : Nat} (h : k < 26) : ∃ c, atI (cs (Str.ofString "abcdefghijklmnopqrstuvwxyz")) (k : Int) = some c ∧ ∀ z ∈ poolOf c, nmS z = true := by
  have := List.all_eq_true.mp pool_all k (List.mem_range.mpr h)
  cases e : atI (cs (Str.ofString "abcdefghijklmnopqrstuvwxyz")) (k : Int) with
  | none => rw [e] at this; cases this
  | some c => rw [e] at this; exact ⟨c, rfl, List.all_eq_true.mp this⟩
def PoolI (c : Nat) (i : Nat) (ρ : Rho) : Prop := ∃ (a b : Sl) (rs ys : List Str), ρ = [.d .rng, .d (.str ⟨#[c]⟩), .o (.l (rs.map D.str)), .o (.l (ys.map D.str)), a, b] ∧ rs.length + i = 8 ∧ (∀ z ∈ rs, nmS z = true) ∧ ys.length ≤ i ∧ (∀ z ∈ ys, nmS z = true) ∧ (0 < i → ys ≠ [])
def DueI (xs : List D) (i : Nat) (ρ : Rho) : Prop := ∃ (y : Sl) (ys : List Str), ρ = [.d (.lst xs), y, .no] ∧ Mid xs i ys
theorem nm_sum : ∀ {zs : List Str}, (∀ z ∈ zs, nmS z = true) → (zs.map (·.length)).sum ≤ 8 * zs.length
  | [], _ => by simp
  | z :: zs, h => by
    have h1 := nm_len (h z List.mem_cons_self)
    have h2 := nm_sum fun y hy => h y (List.mem_cons_of_mem _ hy)
    rw [← cs_len] at h1
    simp only [List.map_cons, List.sum_cons, List.length_cons]
    omega
theorem mem_erase {zs : List Str} {i : Nat} {z : Str} (h : z ∈ zs.eraseIdx i) : z ∈ zs := (List.eraseIdx_sublist zs i).subset h
theorem map_erase {zs : List Str} {i : Nat} : (zs.map D.str).eraseIdx i = (zs.eraseIdx i).map D.str := by
  induction zs generalizing i with
  | nil => rfl
  | cons z zs ih =>
    cases i with
    | zero => rfl
    | succ i => simp [ih]
section
variable {P : Program} {w : World} {K : PySem.W.Frag} {mg : Str → Option Value} {base : Heap}
def sMark : DSp := fun ds A _ => ∃ pool, ds = [.rng, .lst pool] ∧ pool ≠ [] ∧ pool.length ≤ 100 ∧ (∀ x ∈ pool, A x) ∧ ∀ x, markB x = true → A x
theorem ok_law_mark (T : Txt P K mg) : Fo true P w K mg base (L2.CX P w) 3 d_law_mark ["_law_rng_here", "_law_pool_here"] (spD K 2 sMark) := by
  obtain ⟨fd, F⟩ := T.dfn 15 (d := d_law_mark)
  refine fo_mk (k := 2) (m := 3) F sc_law_mark rfl rfl (fun cdv A outer s H E hg hr => (psd_cons (pss_cons (psd_set (ps_set (i := 2) sc_law_mark.nd rfl (Or.inl rfl) (pd_frz (pdo_lst (pe_lst (pda_cons (pa_cons pd_non (pda_cons (pa_cons pd_bl (pda_cons (pa_cons pd_bl (pda_cons (pa_cons pd_int (pda_cons (pa_cons pd_int (pda_cons (pa_cons pd_str (pda_cons (pa_cons pd_str (pda_cons (pa_cons pd_str (pda_cons (pa_cons pd_str (pda_cons (pa_cons pd_str (pda_cons (pa_cons pd_str (pda_cons (pa_cons pd_str (pda_cons (pa_cons pd_str (pda_cons (pa_cons pd_str (pda_cons (pa_cons pd_str (pda_cons (pa_cons (pd_tup (pe_tup pda_nil)) (pda_cons (pa_cons (pd_tup (pe_tup (pda_cons (pa_cons pd_str pda_nil)))) (pda_cons (pa_cons (pd_frz (pdo_lst (pe_lst (pda_cons (pa_cons pd_str pda_nil))))) pda_nil)))))))))))))))))))))))))))))))))))))))))
      (pss_one (psd_ret (ps_ret (pd_ifE (pe_ifExp (ptd_op (od_eq (neg := false)) (pt_cmpR (op_eqP hr.units) (pd_call (pe_oX (ok_law_draw T) (T.glo 16) (b_law_draw) hg (hr.mono (by omega)) rfl (takes_of rfl rfl rfl rfl) (pda_cons (pa_cons (pd_var (pv 0)) (pda_cons (pa_cons pd_int pda_nil)))))) pd_int (nomark _))) (pd_call (pe_oX (ok_law_choice T) (T.glo 17) (b_law_choice) hg (hr.mono (by omega)) rfl (takes_of rfl rfl rfl rfl) (pda_cons (pa_cons (pd_var (pv 0)) (pda_cons (pa_cons (pd_op od_add (pe_op op_addA (pd_var (pv 2)) (pd_frz (pdo_lst (pe_lst (pda_cons (pa_cons (pd_frz (pdo_dnew pe_dnewK)) pda_nil))))))) pda_nil)))))) (pd_call (pe_oX (ok_law_choice T) (T.glo 17) (b_law_choice) hg (hr.mono (by omega)) rfl (takes_of rfl rfl rfl rfl) (pda_cons (pa_cons (pd_var (pv 0)) (pda_cons (pa_cons (pd_var (pv 1)) pda_nil)))))))))))))) ?_
  intro ds Q B hl h
  obtain ⟨pool, rfl, h0, h1, hp, hA⟩ := h
  walk_at "rr"
  refine ⟨12, rfl, by decide, by decide, fun k hk => ⟨rfl, ?_⟩⟩
  by_cases e : eqD (.int k) (.int 0) = true
  · rw [if_pos e]
    refine .inl ⟨_, rfl, List.cons_ne_nil _ _, by decide, fun x hx => hA x ?_⟩
    exact List.all_eq_true.mp (by decide +kernel) x hx
  · rw [if_neg e]
    exact .inl ⟨_, rfl, h0, by omega, hp⟩
def sPool : DSp := fun ds A _ => ds = [.rng] ∧ ∀ zs : List Str, zs ≠ [] → zs.length ≤ 5 → (∀ z ∈ zs, nmS z = true) → A (.lst (zs.map D.str))
theorem ok_law_pool (T : Txt P K mg) : Fo true P w K mg base (L2.CX P w) 2 d_law_pool ["_law_rng_here"] (spD K 1 sPool) := by
  obtain ⟨fd, F⟩ := T.dfn 16 (d := d_law_pool)
  refine fo_mk (k := 1) (m := 6) F sc_law_pool rfl rfl (fun cdv A outer s H E hg hr => (psd_cons (pss_cons (psd_set (ps_set (i := 1) sc_law_pool.nd rfl (Or.inl rfl) (pd_op od_ix (pe_ix ix_any pd_str (pd_call (pe_oX (ok_law_draw T) (T.glo 16) (b_law_draw) hg (hr.mono (by omega)) rfl (takes_of rfl rfl rfl rfl) (pda_cons (pa_cons (pd_var (pv 0)) (pda_cons (pa_cons pd_int pda_nil)))))) (fun _ _ => rfl)))))
      (psd_cons (pss_cons (psd_setO (ps_set (i := 2) sc_law_pool.nd rfl (Or.inl rfl) (pdo_lst (pe_lst (pda_cons (pa_cons (pd_var (pv 1)) (pda_cons (pa_cons (pd_op od_add (pe_op op_addA (pd_var (pv 1)) pd_str)) (pda_cons (pa_cons (pd_op od_mul (pe_op op_mulA (pd_var (pv 1)) pd_int)) (pda_cons (pa_cons (pd_op od_add (pe_op op_addA pd_str (pd_var (pv 1)))) (pda_cons (pa_cons pd_str (pda_cons (pa_cons (pd_op od_add (pe_op op_addA (pd_var (pv 1)) pd_str)) (pda_cons (pa_cons pd_str (pda_cons (pa_cons pd_str pda_nil))))))))))))))))))))
      (psd_cons (pss_cons (psd_setO (ps_set (i := 3) sc_law_pool.nd rfl (Or.inl rfl) (pdo_lst (pe_lst pda_nil))))
      (psd_cons (pss_cons (psd_for (ps_for (passes_of rfl) rfl (pid_r1 (pi_range1 rfl (T.free 39) (pda_cons (pa_cons pd_int pda_nil)))) (pgd_name (vs := [4]) (pg_name (i := 4) sc_law_pool.nd rfl (Or.inl rfl))) (psd_cons (pss_cons (psd_set (ps_set (i := 5) sc_law_pool.nd rfl (Or.inl rfl) (pd_pop (pe_bm PySem.F.plainAttrs_list PySem.F.slot_list_pop PySem.F.type_list_pop mt_popAt (pv 2) (pda_cons (pa_cons (pd_call (pe_oX (ok_law_draw T) (T.glo 16) (b_law_draw) hg (hr.mono (by omega)) rfl (takes_of rfl rfl rfl rfl) (pda_cons (pa_cons (pd_var (pv 0)) (pda_cons (pa_cons (pd_lenO (pe_callB call_len_seq rfl (T.free 42) (by decide +kernel) (pa_cons (pv 2) pa_nil))) pda_nil)))))) pda_nil))))))
      (pss_one (psd_if (ps_if (ptd_inO (neg := true) (pt_cmpR (op_notInA hr.units) (pd_var (pv 5)) (pv 3) (by rfl))) (pss_one (psd_expr (ps_expr (pd_app (pe_bm PySem.F.plainAttrs_list PySem.F.slot_list_append PySem.F.type_list_append mt_append (pv 3) (pda_cons (pa_cons (pd_var (pv 5)) pda_nil))))))) psd_nil)))))))
      (pss_one (psd_ret (ps_ret (pd_var (pv 3)))))))))))))) ?_
  intro ds Q B hl h
  obtain ⟨rfl, hA⟩ := h
  walk_at "rr"
  refine ⟨26, rfl, by decide, by decide, fun k hk => ?_⟩
  obtain ⟨c, hc, hn⟩ := pool_at (k := k) (by omega)
  have l1 : (cs (⟨#[c]⟩ : Str)).length = 1 := rfl
  refine ⟨by decide +kernel, c, hc, ?_⟩
  have la : (cs (Str.ofString "a")).length = 1 := by decide +kernel
  have lb : (cs (Str.ofString "b")).length = 1 := by decide +kernel
  have lab : (cs (Str.ofString "ab")).length = 2 := by decide +kernel
  refine ⟨by rw [l1, la]; decide, by decide, by decide, by rw [l1]; decide, by rw [l1, lb]; decide, by rw [l1, lab]; decide, by decide, by decide, ?_⟩
  refine ⟨PoolI c,
    ⟨_, _, poolOf c, [], rfl, rfl, hn, by decide, by simp, by simp⟩, fun i x ρ hi hp => ?_, fun ρ hp => ?_⟩
  · obtain ⟨a, b, rs, ys, rfl, h1, h2, h3, h4, h5⟩ := hp
    have hi5 : i < 5 := by
      have := (List.getElem?_eq_some_iff.mp hi).1
      simpa [rngL] using this
    walk_at "rr"
    refine ⟨(rs.length : Int), rfl, by omega, by omega, fun j hj => ?_⟩
    have hj : j < rs.length := by omega
    refine ⟨j, rfl, .str rs[j], by rw [List.getElem?_map, List.getElem?_eq_getElem hj]; rfl, by omega, ?_⟩
    have hm : rs[j] ∈ rs := List.getElem_mem hj
    refine ⟨rfl, okD_lstS ys, ?_⟩
    rw [inD_strs, map_erase]
    have el : (rs.eraseIdx j).length + (i + 1) = 8 := by rw [List.length_eraseIdx_of_lt hj]; omega
    by_cases hz : rs[j] ∈ ys
    · rw [if_neg (by simp [hz])]
      exact ⟨_, _, rs.eraseIdx j, ys, rfl, el, fun z q => h2 z (mem_erase q), by omega, h4, fun _ e => by rw [e] at hz; cases hz⟩
    · rw [if_pos (by simp [hz])]
      refine ⟨by omega, _, _, rs.eraseIdx j, ys ++ [rs[j]], by rw [List.map_append]; rfl, el, fun z q => h2 z (mem_erase q), by rw [List.length_append]; show ys.length + 1 ≤ _; omega, fun z q => ?_, fun _ => by simp⟩
      rcases List.mem_append.mp q with q | q
      · exact h4 z q
      · rw [List.mem_singleton.mp q]
        exact h2 _ hm
  · obtain ⟨a, b, rs, ys, rfl, h1, h2, h3, h4, h5⟩ := hp
    walk_at "rr"
    have e5 : (rngL 0 (Int.toNat 5)).length = 5 := rfl
    exact hA ys (h5 (by rw [e5]; decide)) h3 h4
def sLawLab : DSp := fun ds A B => ∃ xs, (ds = [.lst xs] ∨ ds = [.tup xs]) ∧ xs.length ≤ 6 ∧ (∀ x ∈ xs, okS x) ∧ (∀ v, badD xs = some v → B (xName v)) ∧ ∀ zs : List Str, xs = zs.map D.str → (∀ z ∈ zs, nmS z = true) →
  ((srt zs).length ≤ 4 → A (labD (srt zs))) ∧ (4 < (srt zs).length → B xMany)
theorem ok_law_label (T : Txt P K mg) : Fo true P w K mg base (L2.CX P w) 6 d_law_label ["_law_marks"] (spD K 1 sLawLab) := by
  obtain ⟨fd, F⟩ := T.dfn 17 (d := d_law_label)
  refine fo_mk (k := 5) (m := 1) F sc_law_label rfl rfl (fun cdv A outer s H E hg hr => (psd_cons (pss_cons (psd_if (ps_if (ptd_op (od_eq (neg := false)) (pt_cmpR (op_eqP hr.units) (pd_fn cd_len (pe_callB call_lenA rfl (T.free 42) (by decide +kernel) (pda_cons (pa_cons (pd_var (pv 0)) pda_nil)))) pd_int (nomark _))) (pss_one (psd_ret (ps_ret (pd_makeP0 (C := "Label") (Ab.pe_mk0X (mk_Label T) (ok_Label_init T) (hr.mono (by omega)) rfl (T.glo 14) (takes_of rfl rfl rfl rfl)))))) psd_nil))
      (psd_cons (pss_cons (psd_if (ps_if (ptd_op (od_eq (neg := false)) (pt_cmpR (op_eqP hr.units) (pd_fn cd_len (pe_callB call_lenA rfl (T.free 42) (by decide +kernel) (pda_cons (pa_cons (pd_var (pv 0)) pda_nil)))) pd_int (nomark _))) (pss_one (psd_ret (ps_ret (pd_makeP (C := "Label") (Ab.pe_makeX (mk_Label T) (ok_Label_init T) (hr.mono (by omega)) rfl (T.glo 14) (takes_of rfl rfl rfl rfl) (pda_cons (pa_cons (pd_op od_ix (pe_ix ix_any (pd_var (pv 0)) pd_int (fun _ _ => rfl))) pda_nil))))))) psd_nil))
      (psd_cons (pss_cons (psd_if (ps_if (ptd_op (od_eq (neg := false)) (pt_cmpR (op_eqP hr.units) (pd_fn cd_len (pe_callB call_lenA rfl (T.free 42) (by decide +kernel) (pda_cons (pa_cons (pd_var (pv 0)) pda_nil)))) pd_int (nomark _))) (pss_one (psd_ret (ps_ret (pd_makeP (C := "Label") (Ab.pe_makeX (mk_Label T) (ok_Label_init T) (hr.mono (by omega)) rfl (T.glo 14) (takes_of rfl rfl rfl rfl) (pda_cons (pa_cons (pd_op od_ix (pe_ix ix_any (pd_var (pv 0)) pd_int (fun _ _ => rfl))) (pda_cons (pa_cons (pd_op od_ix (pe_ix ix_any (pd_var (pv 0)) pd_int (fun _ _ => rfl))) pda_nil))))))))) psd_nil))
      (psd_cons (pss_cons (psd_if (ps_if (ptd_op (od_eq (neg := false)) (pt_cmpR (op_eqP hr.units) (pd_fn cd_len (pe_callB call_lenA rfl (T.free 42) (by decide +kernel) (pda_cons (pa_cons (pd_var (pv 0)) pda_nil)))) pd_int (nomark _))) (pss_one (psd_ret (ps_ret (pd_makeP (C := "Label") (Ab.pe_makeX (mk_Label T) (ok_Label_init T) (hr.mono (by omega)) rfl (T.glo 14) (takes_of rfl rfl rfl rfl) (pda_cons (pa_cons (pd_op od_ix (pe_ix ix_any (pd_var (pv 0)) pd_int (fun _ _ => rfl))) (pda_cons (pa_cons (pd_op od_ix (pe_ix ix_any (pd_var (pv 0)) pd_int (fun _ _ => rfl))) (pda_cons (pa_cons (pd_op od_ix (pe_ix ix_any (pd_var (pv 0)) pd_int (fun _ _ => rfl))) pda_nil))))))))))) psd_nil))
      (psd_cons (pss_cons (psd_if (ps_if (ptd_op (od_eq (neg := false)) (pt_cmpR (op_eqP hr.units) (pd_fn cd_len (pe_callB call_lenA rfl (T.free 42) (by decide +kernel) (pda_cons (pa_cons (pd_var (pv 0)) pda_nil)))) pd_int (nomark _))) (pss_one (psd_ret (ps_ret (pd_makeP (C := "Label") (Ab.pe_makeX (mk_Label T) (ok_Label_init T) (hr.mono (by omega)) rfl (T.glo 14) (takes_of rfl rfl rfl rfl) (pda_cons (pa_cons (pd_op od_ix (pe_ix ix_any (pd_var (pv 0)) pd_int (fun _ _ => rfl))) (pda_cons (pa_cons (pd_op od_ix (pe_ix ix_any (pd_var (pv 0)) pd_int (fun _ _ => rfl))) (pda_cons (pa_cons (pd_op od_ix (pe_ix ix_any (pd_var (pv 0)) pd_int (fun _ _ => rfl))) (pda_cons (pa_cons (pd_op od_ix (pe_ix ix_any (pd_var (pv 0)) pd_int (fun _ _ => rfl))) pda_nil))))))))))))) psd_nil))
      (psd_cons (pss_cons (psd_if (ps_if (ptd_op (od_eq (neg := false)) (pt_cmpR (op_eqP hr.units) (pd_fn cd_len (pe_callB call_lenA rfl (T.free 42) (by decide +kernel) (pda_cons (pa_cons (pd_var (pv 0)) pda_nil)))) pd_int (nomark _))) (pss_one (psd_ret (ps_ret (pd_makeP (C := "Label") (Ab.pe_makeX (mk_Label T) (ok_Label_init T) (hr.mono (by omega)) rfl (T.glo 14) (takes_of rfl rfl rfl rfl) (pda_cons (pa_cons (pd_op od_ix (pe_ix ix_any (pd_var (pv 0)) pd_int (fun _ _ => rfl))) (pda_cons (pa_cons (pd_op od_ix (pe_ix ix_any (pd_var (pv 0)) pd_int (fun _ _ => rfl))) (pda_cons (pa_cons (pd_op od_ix (pe_ix ix_any (pd_var (pv 0)) pd_int (fun _ _ => rfl))) (pda_cons (pa_cons (pd_op od_ix (pe_ix ix_any (pd_var (pv 0)) pd_int (fun _ _ => rfl))) (pda_cons (pa_cons (pd_op od_ix (pe_ix ix_any (pd_var (pv 0)) pd_int (fun _ _ => rfl))) pda_nil))))))))))))))) psd_nil))
      (pss_one (psd_ret (ps_ret (pd_makeP (C := "Label") (Ab.pe_makeX (mk_Label T) (ok_Label_init T) (hr.mono (by omega)) rfl (T.glo 14) (takes_of rfl rfl rfl rfl) (pda_cons (pa_cons (pd_op od_ix (pe_ix ix_any (pd_var (pv 0)) pd_int (fun _ _ => rfl))) (pda_cons (pa_cons (pd_op od_ix (pe_ix ix_any (pd_var (pv 0)) pd_int (fun _ _ => rfl))) (pda_cons (pa_cons (pd_op od_ix (pe_ix ix_any (pd_var (pv 0)) pd_int (fun _ _ => rfl))) (pda_cons (pa_cons (pd_op od_ix (pe_ix ix_any (pd_var (pv 0)) pd_int (fun _ _ => rfl))) (pda_cons (pa_cons (pd_op od_ix (pe_ix ix_any (pd_var (pv 0)) pd_int (fun _ _ => rfl))) (pda_cons (pa_cons (pd_op od_ix (pe_ix ix_any (pd_var (pv 0)) pd_int (fun _ _ => rfl))) pda_nil)))))))))))))))))))))))))))))) ?_
  intro ds Q B hl h
  obtain ⟨xs, hd, hx, hk, hB, hA⟩ := h
  have main : sLab [D.tup xs] (fun fs => Q (D.obj (Str.ofString "Label") fs)) B := ⟨xs, rfl, by omega, hk, hB, hA⟩
  clear hB hA hk
  rcases hd with rfl | rfl
  all_goals
    walk_at "rr"
    clear hl
    rcases xs with _ | ⟨a, _ | ⟨b, _ | ⟨c, _ | ⟨d, _ | ⟨e, _ | ⟨f, _ | ⟨g, t⟩⟩⟩⟩⟩⟩⟩
    · rw [if_pos (by simp)]
      exact main
    · rw [if_neg (by simp), if_pos (by simp)]
      exact ⟨_, rfl, main⟩
    · rw [if_neg (by simp), if_neg (by simp), if_pos (by simp)]
      exact ⟨_, rfl, _, rfl, main⟩
    · rw [if_neg (by simp), if_neg (by simp), if_neg (by simp), if_pos (by simp)]
      exact ⟨_, rfl, _, rfl, _, rfl, main⟩
    · rw [if_neg (by simp), if_neg (by simp), if_neg (by simp), if_neg (by simp), if_pos (by simp)]
      exact ⟨_, rfl, _, rfl, _, rfl, _, rfl, main⟩
    · rw [if_neg (by simp), if_neg (by simp), if_neg (by simp), if_neg (by simp), if_neg (by simp), if_pos (by simp)]
      exact ⟨_, rfl, _, rfl, _, rfl, _, rfl, _, rfl, main⟩
    · rw [if_neg (by simp), if_neg (by simp), if_neg (by simp), if_neg (by simp), if_neg (by simp), if_neg (by simp)]
      exact ⟨_, rfl, _, rfl, _, rfl, _, rfl, _, rfl, _, rfl, main⟩
    · simp only [List.length_cons] at hx
      omega
def sDue : DSp := fun ds A _ => ∃ xs, ds = [.lst xs] ∧ xs.length ≤ 6 ∧ (∀ x ∈ xs, okS x) ∧ (∀ v, badD xs = some v → A (.tup [.str "name", v])) ∧ ∀ zs : List Str, xs = zs.map D.str → (∀ z ∈ zs, nmS z = true) →
  ((srt zs).length ≤ 4 → A (.tup [.str "marks", .tup ((srt zs).map D.str)])) ∧ (4 < (srt zs).length → A (.tup [.str "many", .str "marks", .int 4]))
theorem ok_law_due (T : Txt P K mg) : Fo true P w K mg base (L2.CX P w) 2 d_law_due ["_law_marks"] (spD K 1 sDue) := by
  obtain ⟨fd, F⟩ := T.dfn 18 (d := d_law_due)
  refine fo_mk (k := 1) (m := 3) F sc_law_due rfl rfl (fun cdv A outer s H E hg hr => (psd_cons (pss_cons (psd_for (ps_for (passes_of rfl) rfl (pid_list (pi_list (pd_var (pv 0)))) (pgd_name (vs := [1]) (pg_name (i := 1) sc_law_due.nd rfl (Or.inl rfl))) (pss_one (psd_if (ps_if (ptd_not (pt_not (pt_val (pd_call (pe_oX (ok_law_is_name T) (T.glo 18) (b_law_is_name) hg (hr.mono (by omega)) rfl (takes_of rfl rfl rfl rfl) (pda_cons (pa_cons (pd_var (pv 1)) pda_nil))))))) (pss_one (psd_ret (ps_ret (pd_tup (pe_tup (pda_cons (pa_cons pd_str (pda_cons (pa_cons (pd_var (pv 1)) pda_nil))))))))) psd_nil)))))
      (psd_cons (pss_cons (psd_set (ps_set (i := 2) sc_law_due.nd rfl (Or.inl rfl) (pd_fn cd_tup (pe_callTy call_tuple_of rfl (T.free 40) (by decide +kernel) (pda_cons (pa_cons (pd_frz (pdo_sortSet (Ab.pe_sortSet rfl rfl (T.free 38) rfl (T.free 49) (pd_var (pv 0))))) pda_nil))))))
      (pss_one (psd_ret (ps_ret (pd_ifE (pe_ifExp (ptd_op od_gt (pt_cmpR op_gtA (pd_fn cd_len (pe_callB call_lenA rfl (T.free 42) (by decide +kernel) (pda_cons (pa_cons (pd_var (pv 2)) pda_nil)))) pd_int (nomark _))) (pd_tup (pe_tup (pda_cons (pa_cons pd_str (pda_cons (pa_cons pd_str (pda_cons (pa_cons pd_int pda_nil)))))))) (pd_tup (pe_tup (pda_cons (pa_cons pd_str (pda_cons (pa_cons (pd_var (pv 2)) pda_nil)))))))))))))))) ?_
  intro ds Q B hl h
  obtain ⟨xs, rfl, hx, hk, hB, hA⟩ := h
  walk_at "rr"
  refine ⟨DueI xs, ⟨_, [], rfl, Mid.zero⟩, fun i x ρ hi hp => ?_, fun ρ hp => ?_⟩
  · obtain ⟨y, ys, rfl, m⟩ := hp
    walk_at "rr"
    refine ⟨x, rfl, hk x (List.mem_of_getElem? hi), _, rfl, ?_⟩
    cases hn : isNmD x with
    | false => exact (if_pos rfl).mpr (hB x (m.bad hi hn))
    | true =>
      obtain ⟨z, rfl⟩ := nmD_str hn
      refine (if_neg (by decide)).mpr ?_
      by_cases hz : z ∈ ys
      · exact ⟨_, ys, rfl, m.old hi hn hz⟩
      · exact ⟨_, ys ++ [z], rfl, m.new hi hn hz⟩
  · obtain ⟨y, ys, rfl, m⟩ := hp
    obtain ⟨⟨zs, h1, h2, _⟩, _⟩ := m
    rw [List.take_length] at h1
    obtain ⟨k4, k5⟩ := hA zs h1 h2
    have hl2 : zs.length ≤ 6 := by rw [h1, List.length_map] at hx; exact hx
    walk_at "rr"
    refine ⟨zs, h1, by omega, ?_⟩
    by_cases h4 : (srt zs).length ≤ 4
    · rw [if_neg (by omega)]
      exact k4 h4
    · rw [if_pos (by omega)]
      exact k5 (by omega)
theorem ok_law_told (T : Txt P K mg) : Fo true P w K mg base (L2.CX P w) 7 d_law_told ["_law_marks"] (spD K 1 sDue) := by
  obtain ⟨fd, F⟩ := T.dfn 19 (d := d_law_told)
  refine fo_mk (k := 6) (m := 3) F sc_law_told rfl rfl (fun cdv A outer s H E hg hr => (psd_cons (pss_cons (psd_set (ps_set (i := 1) sc_law_told.nd rfl (Or.inl rfl) (pd_tup (pe_tup (pda_cons (pa_cons pd_str pda_nil))))))
      (psd_cons (pss_cons (psd_tryL (i := 2) [("InvalidName", _), ("TooMany", _)] (exf_ok T) (by decide) rfl rfl sc_law_told.nd rfl rfl (takes_of rfl rfl rfl rfl)
      (fun W pn xe tk po => (pss_one (psd_set (ps_set (i := 1) sc_law_told.nd rfl (Or.inl rfl) (pd_tup (pe_tup (pda_cons (pa_cons pd_str (pda_cons (pa_cons (pd_prop (pe_Label_marks T (hr.mono (by omega)) (pd_call (pe_oX (ok_law_label T) (T.glo 21) (b_law_label) hg (hr.mono (by omega)) rfl tk (pda_cons (pa_cons (pd_var (pv 0)) pda_nil)))))) pda_nil))))))))))
      (.cons ⟨rfl, by decide, Or.inl (T.glo 2)⟩ (fun a oe cls d pn hz hf => (pss_one (psd_if (ps_if (PW.pt (pwd_and (pw_and (pt_val (pd_isX (exf_ok T) (C := "InvalidError") (by decide) (pe_callB (Ab.call_isX hz hf) rfl (T.free 41) (by decide +kernel) (pa_cons (pv 2) (pa_cons (pe_gr rfl (T.glo 1)) pa_nil))))) (pw_and1 (ptd_not (pt_not (pt_val (pd_isXT (exf_ok T) ["InvalidLabel", "InvalidText", "LimitError"] (by decide) (by decide) (pe_callB (Ab.call_isXT hz hf) rfl (T.free 41) (by decide +kernel) (pa_cons (pv 2) (pa_cons (pe_tup (pa_cons (pe_gr rfl (T.glo 3)) (pa_cons (pe_gr rfl (T.glo 4)) (pa_cons (pe_gr rfl (T.glo 5)) pa_nil)))) pa_nil))))))))))) (pss_one (psd_set (ps_set (i := 1) sc_law_told.nd rfl (Or.inl rfl) (pd_tup (pe_tup (pda_cons (pa_cons pd_str (pda_cons (pa_cons (pd_xf (n := "InvalidName") (pe_xf ((exf_ok T).exc (n := "InvalidName") (by decide)).2 ((exf_ok T).no (n := "InvalidName") (f := "value") (by decide)) hz hf (pv 2))) pda_nil))))))))) psd_nil)))) (.cons ⟨rfl, by decide, Or.inl (T.glo 6)⟩ (fun a oe cls d pn hz hf => (pss_one (psd_if (ps_if (PW.pt (pwd_and (pw_and (pt_val (pd_isX (exf_ok T) (C := "LimitError") (by decide) (pe_callB (Ab.call_isX hz hf) rfl (T.free 41) (by decide +kernel) (pa_cons (pv 2) (pa_cons (pe_gr rfl (T.glo 5)) pa_nil))))) (pwd_and (pw_and (pt_val (pd_isXB (exf_ok T) (b := "ArithmeticError") (by decide) (pe_callB (Ab.call_isX hz hf) rfl (T.free 41) (by decide +kernel) (pa_cons (pv 2) (pa_cons (pe_bltn (v := .ty "ArithmeticError") rfl (T.free 34) (by decide +kernel) rfl) pa_nil))))) (pw_and1 (ptd_not (pt_not (pt_val (pd_isXB (exf_ok T) (b := "ValueError") (by decide) (pe_callB (Ab.call_isX hz hf) rfl (T.free 41) (by decide +kernel) (pa_cons (pv 2) (pa_cons (pe_bltn (v := .ty "ValueError") rfl (T.free 33) (by decide +kernel) rfl) pa_nil))))))))))))) (pss_one (psd_set (ps_set (i := 1) sc_law_told.nd rfl (Or.inl rfl) (pd_tup (pe_tup (pda_cons (pa_cons pd_str (pda_cons (pa_cons (pd_xf (n := "TooMany") (pe_xf ((exf_ok T).exc (n := "TooMany") (by decide)).2 ((exf_ok T).no (n := "TooMany") (f := "kind") (by decide)) hz hf (pv 2))) (pda_cons (pa_cons (pd_xf (n := "TooMany") (pe_xf ((exf_ok T).exc (n := "TooMany") (by decide)).2 ((exf_ok T).no (n := "TooMany") (f := "limit") (by decide)) hz hf (pv 2))) pda_nil))))))))))) psd_nil)))) .nil)))
      (pss_one (psd_ret (ps_ret (pd_var (pv 1)))))))))) ?_
  intro ds Q B hl h
  obtain ⟨xs, rfl, hx, hk, hB, hA⟩ := h
  walk_at "rr"
  have a0 : ("InvalidName" : Str) ∈ xl := by decide
  have s1 : xsub "InvalidName" "InvalidName" = true := by decide +kernel
  have s2 : xsub "InvalidName" "InvalidError" = true := by decide +kernel
  have s3 : ([Str.ofString "InvalidLabel", Str.ofString "InvalidText", Str.ofString "LimitError"].any fun C => xsub "InvalidName" C) = false := by decide +kernel
  have b0 : ("TooMany" : Str) ∈ xl := by decide
  have t1 : ¬ xsub "TooMany" "InvalidName" = true := by decide +kernel
  have t2 : xsub "TooMany" "TooMany" = true := by decide +kernel
  have t3 : xsub "TooMany" "LimitError" = true := by decide +kernel
  have t4 : xsubB "TooMany" "ArithmeticError" = true := by decide +kernel
  have t5 : xsubB "TooMany" "ValueError" = false := by decide +kernel
  refine ⟨xs, .inl rfl, hx, hk, fun v hv => ?_, fun zs ez hz => ⟨fun h4 => ⟨_, rfl, srt zs, rfl, (hA zs ez hz).1 h4⟩, fun h5 => ?_⟩⟩
  · exact ⟨a0, (if_pos s1).mpr ⟨a0, (if_pos s2).mpr ⟨a0, (if_pos s3).mpr ⟨rfl, v, rfl, hB v hv⟩⟩⟩⟩
  · exact ⟨b0, (if_neg t1).mpr ⟨b0, (if_pos t2).mpr ⟨b0, (if_pos t3).mpr ⟨b0, (if_pos t4).mpr ⟨b0, (if_pos t5).mpr ⟨rfl, _, rfl, rfl, _, rfl, (hA zs ez hz).2 h5⟩⟩⟩⟩⟩⟩
def readD (z : Str) : D := if okTx z = true then .tup [.str "marks", .tup ((mtx z).map D.str)] else .tup [.str "refused", .str "label"]
def sRead : DSp := fun ds A _ => ∃ x, ds = [x] ∧ okS x ∧ (isStrD x = false → A (.tup [.str "refused", .str "string"])) ∧ ∀ z, x = .str z → (cs z).length ≤ 900 ∧ pls z ≤ 50 ∧ A (readD z)
theorem ok_law_read (T : Txt P K mg) : Fo true P w K mg base (L2.CX P w) 7 d_law_read ["_law_thing"] (spD K 1 sRead) := by
  obtain ⟨fd, F⟩ := T.dfn 20 (d := d_law_read)
  refine fo_mk (k := 6) (m := 3) F sc_law_read rfl rfl (fun cdv A outer s H E hg hr => (psd_cons (pss_cons (psd_set (ps_set (i := 1) sc_law_read.nd rfl (Or.inl rfl) (pd_tup (pe_tup (pda_cons (pa_cons pd_str pda_nil))))))
      (psd_cons (pss_cons (psd_tryL (i := 2) [("InvalidText", _)] (exf_ok T) (by decide) rfl rfl sc_law_read.nd rfl rfl (takes_of rfl rfl rfl rfl)
      (fun W pn xe tk po => (pss_one (psd_set (ps_set (i := 1) sc_law_read.nd rfl (Or.inl rfl) (pd_tup (pe_tup (pda_cons (pa_cons pd_str (pda_cons (pa_cons (pd_prop (pe_Label_marks T (hr.mono (by omega)) (pd_cmeth (C := "Label") (Ab.pe_cmethX (pd_c (pe_gr rfl (T.glo 14)) (fun _ _ => .cls _)) (read_Label T) (cm_Label_of_text T).choose_spec (ok_Label_of_text T).choose_spec.1 (ok_Label_of_text T).choose_spec.2.1 gd_false (hr.mono (by omega)) tk (pda_cons (pa_cons (pd_var (pv 0)) pda_nil)))))) pda_nil))))))))))
      (.cons ⟨rfl, by decide, Or.inl (T.glo 4)⟩ (fun a oe cls d pn hz hf => (pss_one (psd_if (ps_if (PW.pt (pwd_and (pw_and (pt_val (pd_isX (exf_ok T) (C := "InvalidError") (by decide) (pe_callB (Ab.call_isX hz hf) rfl (T.free 41) (by decide +kernel) (pa_cons (pv 2) (pa_cons (pe_gr rfl (T.glo 1)) pa_nil))))) (pw_and1 (ptd_not (pt_not (pt_val (pd_isXT (exf_ok T) ["InvalidLabel", "InvalidName", "LimitError"] (by decide) (by decide) (pe_callB (Ab.call_isXT hz hf) rfl (T.free 41) (by decide +kernel) (pa_cons (pv 2) (pa_cons (pe_tup (pa_cons (pe_gr rfl (T.glo 3)) (pa_cons (pe_gr rfl (T.glo 2)) (pa_cons (pe_gr rfl (T.glo 5)) pa_nil)))) pa_nil))))))))))) (pss_one (psd_set (ps_set (i := 1) sc_law_read.nd rfl (Or.inl rfl) (pd_tup (pe_tup (pda_cons (pa_cons pd_str (pda_cons (pa_cons (pd_xf (n := "InvalidText") (pe_xf ((exf_ok T).exc (n := "InvalidText") (by decide)).2 ((exf_ok T).no (n := "InvalidText") (f := "problem") (by decide)) hz hf (pv 2))) pda_nil))))))))) psd_nil)))) .nil))
      (pss_one (psd_ret (ps_ret (pd_var (pv 1)))))))))) ?_
  intro ds Q B hl h
  obtain ⟨x, rfl, hk, hN, hZ⟩ := h
  walk_at "rr"
  have a0 : ("InvalidText" : Str) ∈ xl := by decide
  have s1 : xsub "InvalidText" "InvalidText" = true := by decide +kernel
  have s2 : xsub "InvalidText" "InvalidError" = true := by decide +kernel
  have s3 : ([Str.ofString "InvalidLabel", Str.ofString "InvalidName", Str.ofString "LimitError"].any fun C => xsub "InvalidText" C) = false := by decide +kernel
  refine ⟨x, rfl, hk, fun h => ⟨a0, (if_pos s1).mpr ⟨a0, (if_pos s2).mpr ⟨a0, (if_pos s3).mpr ⟨rfl, _, rfl, hN h⟩⟩⟩⟩, fun z e => ?_⟩
  obtain ⟨h1, h2, h3⟩ := hZ z e
  unfold readD at h3
  refine ⟨h1, h2, fun h => ?_, fun h => ?_⟩
  · rw [if_neg (by rw [h]; decide)] at h3
    exact ⟨a0, (if_pos s1).mpr ⟨a0, (if_pos s2).mpr ⟨a0, (if_pos s3).mpr ⟨rfl, _, rfl, h3⟩⟩⟩⟩
  · rw [if_pos h] at h3
    exact ⟨_, rfl, mtx z, rfl, h3⟩
theorem ok_law_read_due (T : Txt P K mg) : Fo true P w K mg base (L2.CX P w) 2 d_law_read_due ["_law_thing"] (spD K 1 sRead) := by
  obtain ⟨fd, F⟩ := T.dfn 21 (d := d_law_read_due)
  refine fo_mk (k := 1) (m := 3) F sc_law_read_due rfl rfl (fun cdv A outer s H E hg hr => (psd_cons (pss_cons (psd_if (ps_if (ptd_not (pt_not (pt_val (pd_fn (cd_isStr (own_ok T)) (pe_callB call_isi rfl (T.free 41) (by decide +kernel) (pda_cons (pa_cons (pd_var (pv 0)) (pda_cons (pa_cons (pd_c (pe_bltn (v := .ty "str") rfl (T.free 47) (by decide +kernel) rfl) (fun _ _ => .ty _)) pda_nil))))))))) (pss_one (psd_ret (ps_ret (pd_tup (pe_tup (pda_cons (pa_cons pd_str (pda_cons (pa_cons pd_str pda_nil))))))))) psd_nil))
      (psd_cons (pss_cons (psd_set (ps_set (i := 1) sc_law_read_due.nd rfl (Or.inl rfl) (pd_ifE (pe_ifExp (ptd_op (od_eq (neg := true)) (pt_cmpR (op_neP hr.units) (pd_var (pv 0)) pd_str (nomark _))) (pd_frz (pdo_split (pe_split (pd_var (pv 0)) pd_str))) (pd_frz (pdo_lst (pe_lst pda_nil)))))))
      (psd_cons (pss_cons (psd_if (ps_if (PW.pt (pwd_or (pw_or (ptd_op od_gt (pt_cmpR op_gtA (pd_fn cd_len (pe_callB call_lenA rfl (T.free 42) (by decide +kernel) (pda_cons (pa_cons (pd_var (pv 1)) pda_nil)))) pd_int (nomark _))) (pw_or1 (ptd_not (pt_not (pt_val (pd_fn cd_all (pe_callB (cr_all rfl) rfl (T.free 37) (by decide +kernel) (pda_cons (pa_cons (pd_frz (pdo_lc (pe_lc (own := [("_law_mark_here", 2)]) rfl sc_law_read_due.nd (pid_list (pi_list (pd_var (pv 1)))) (blkOk_by (own := [("_law_mark_here", 2)]) (N := N_law_read_due) (sc := defScope s_law_read_due) (by decide +kernel)) (fun _ _ _ _ _ => (pgd_name (vs := [2]) (pg_name (i := 2) sc_law_read_due.nd rfl (Or.inl rfl)))) (fun _ _ _ _ _ => pts_nil) (fun _ _ _ _ _ => (pd_call (pe_oX (ok_law_is_name T) (T.glo 18) (b_law_is_name) hg (hr.mono (by omega)) rfl Ab.takes_no (pda_cons (pa_cons (pd_var (pv 2)) pda_nil)))))))) pda_nil))))))))))) (pss_one (psd_ret (ps_ret (pd_tup (pe_tup (pda_cons (pa_cons pd_str (pda_cons (pa_cons pd_str pda_nil))))))))) psd_nil))
      (pss_one (psd_ret (ps_ret (pd_ifE (pe_ifExp (ptd_op (od_eq (neg := false)) (pt_cmpR (op_eqP hr.units) (pd_var (pv 1)) (pd_frz (pdo_sortSet (Ab.pe_sortSet rfl rfl (T.free 38) rfl (T.free 49) (pd_var (pv 1))))) (nomark _))) (pd_tup (pe_tup (pda_cons (pa_cons pd_str (pda_cons (pa_cons (pd_fn cd_tup (pe_callTy call_tuple_of rfl (T.free 40) (by decide +kernel) (pda_cons (pa_cons (pd_var (pv 1)) pda_nil)))) pda_nil)))))) (pd_tup (pe_tup (pda_cons (pa_cons pd_str (pda_cons (pa_cons pd_str pda_nil)))))))))))))))))) ?_
  intro ds Q B hl h
  obtain ⟨x, rfl, ⟨hk, hz⟩, hN, hZ⟩ := h
  cases x with
  | str z =>
    obtain ⟨h1, h2, hA⟩ := hZ z rfl
    unfold readD at hA
    walk_at "rr"
    by_cases ez : z = Str.ofString "-"
    case' pos =>
      have em : mtx z = [] := if_pos ez
      have ml : ∀ m ∈ mtx z, (cs m).length ≤ 900 := by rw [em]; exact nofun
      rw [if_neg (by simp [ez]), if_neg (by decide)]
      have l4 : (mtx z).length ≤ 4 := by rw [em]; decide
      have e1 : ∀ we A ρ, dLc [2] (gN 2) dYes we [] A ρ = dLc [2] (gN 2) dYes we ((mtx z).map D.str) A ρ := by rw [em]; intros; rfl
      have e0 : D.lst [] = D.lst ((mtx z).map D.str) := by rw [em]; rfl
      rw [e1, e0]
    case' neg =>
      have em : mtx z = Txt.split z "+" := if_neg ez
      have ml : ∀ m ∈ mtx z, (cs m).length ≤ 900 := by rw [em]; exact fun m hm => Nat.le_trans (prt_short z m hm) h1
      rw [if_pos (by simp [ez])]
      refine ⟨by decide +kernel, by omega, ?_⟩
      have e1 : Txt.split z (Str.ofString "+") = mtx z := em.symm
      rw [e1]
      by_cases l4 : (mtx z).length ≤ 4
      case' neg =>
        rw [if_pos (by omega)]
        rw [if_neg (by unfold okTx; rw [decide_eq_false l4, Bool.false_and]; decide)] at hA
        exact hA
      case' pos => rw [if_neg (by omega)]
    all_goals
      refine lc_mapG (mtx z) D.str (fun m => .bl (nmS m)) (by omega) (fun m hm Q h => ?_) ?_
      · walk_at "rr"
        exact ⟨_, rfl, okS_str (Nat.le_trans (ml m hm) (by decide)), h⟩
      · walk_at "rr"
        refine ⟨(mtx z).map nmS, by rw [List.map_map]; rfl, ?_⟩
        rw [all_map_id]
        by_cases ha : (mtx z).all nmS = true
        · rw [if_neg (by rw [ha]; decide)]
          refine ⟨mtx z, rfl, by omega, okD_lstS _, okD_lstS _, ?_⟩
          rw [eqD_lstS]
          by_cases hk : mtx z = srt (mtx z)
          · rw [if_pos (decide_eq_true hk)]
            rw [if_pos (by unfold okTx; rw [ha, decide_eq_true hk, decide_eq_true l4]; rfl)] at hA
            exact hA
          · rw [if_neg (by simp [hk])]
            rw [if_neg (by unfold okTx; rw [decide_eq_false hk, Bool.and_false, Bool.and_false]; decide)] at hA
            exact hA
        · have ha' : (mtx z).all nmS = false := by simpa using ha
          rw [if_pos ha']
          rw [if_neg (by unfold okTx; rw [ha', Bool.false_and, Bool.and_false]; decide)] at hA
          exact hA
  | _ => walk_at "rr"; first | exact hN rfl | exact ⟨hk, hN rfl⟩ | exact ⟨of_decide_eq_true hk, hN rfl⟩ | exact absurd hk (by decide)
def labS (ms : List Str) : Str := if ms = [] then "-" else Txt.join "+" ms
def sText : DSp := fun ds A _ => ∃ zs : List Str, (ds = [.lst (zs.map D.str)] ∨ ds = [.tup (zs.map D.str)]) ∧ zs.length ≤ 10 ∧ (∀ z ∈ zs, nmS z = true) ∧ A (.str (labS zs))
theorem ok_law_text (T : Txt P K mg) : Fo true P w K mg base (L2.CX P w) 1 d_law_text ["_law_marks"] (spD K 1 sText) := by
  obtain ⟨fd, F⟩ := T.dfn 22 (d := d_law_text)
  refine fo_mk (k := 0) (m := 1) F sc_law_text rfl rfl (fun cdv A outer s H E hg hr => (pss_one (psd_ret (ps_ret (pd_ifE (pe_ifExp (ptd_op od_gt (pt_cmpR op_gtA (pd_fn cd_len (pe_callB call_lenA rfl (T.free 42) (by decide +kernel) (pda_cons (pa_cons (pd_var (pv 0)) pda_nil)))) pd_int (nomark _))) (pd_m1 md_join (pe_join pd_str (pd_var (pv 0)))) pd_str)))))) ?_
  intro ds Q B hl h
  obtain ⟨zs, hd, hl', hz, hA⟩ := h
  have hs := nm_sum hz
  unfold labS at hA
  rcases hd with rfl | rfl
  all_goals
    walk_at "rr"
    by_cases h0 : zs = []
    · subst h0
      rw [if_neg (by simp)]
      exact hA
    · have := List.length_pos_iff.mpr h0
      rw [if_pos (by omega)]
      rw [if_neg h0] at hA
      exact ⟨zs, rfl, join_size (n := 100) (by omega) (by decide), hA⟩
end
end L12

set_option Elab.async false
set_option linter.all false
set_option maxRecDepth 100000
set_option maxHeartbeats 4000000
namespace L12
open PySem PySem.Spec PyProof.Rows L2 Ab
local macro_rules | `(tactic| walk_at "rr") => `(tactic| simp only [endsF, endsI, rho0, rhoI, List.map_cons, List.map_nil, List.length_cons, List.length_nil, List.replicate_succ, List.replicate_zero, List.cons_append, List.nil_append, Nat.reduceSub, Nat.reduceAdd, Nat.zero_add,
  dV_eq, dVat_d, gT_two, gT_three, dVat_o, Ab.okD_int, Ab.okD_bl, Ab.okD_non, Ab.okD_str, Ab.okD_tup0, Ab.okD_lst0, Ab.eqD_int, Ab.eqD_bl, Ab.eqD_str, dC, dOp, dUn, dChain, dAnd, dOr, dNot, dIfE, dNil, dCons, dTup, dLst, dF, dNext, dSeq, dBrk, dCnt, dExpr, dRet, dRetN, dIf, dSet, dSetO, dPar, dPar3, gN, dAsg, dFor, dItL, dItT, dItS, dItA, dR1, dR2, dComp, wipeR, dCall, dFn, dFnO, dSl, dNoP, dP, dM1, dM0, dSplit, dApp, dPop, dInO, dLenO, dSortSet, dFld, dStF, dMake, dMakeP, dMakeS, dMakeV, dProp, dCMeth, dCVal, dRaise, dTry, dHnd, endsX, offX, dXf, dIsX, dIsXB, dIsXT, dDnew, dFmt, dJs, dJoined, dCallK,
  pyIsN, pyEq, pyJoin, pyInO, fnAll, fnAny, fnAbs, fnMax, fnMin, fnStrI, fnSortS, fnIsi, fnIsO, fnRepr, fnReprS, fnLenO, fnStrO, Ab.Ow_d_l, Ab.Ow_d_i, Ab.Ow_d_m, Ab.pyAdd_i, Ab.pyAdd_s, Ab.pyAdd_l, Ab.pyAdd_t, Ab.pySub_i, Ab.pyMul_i, Ab.pyMul_s, Ab.pyMod_i, Ab.pyFdv_i, Ab.pyPow_i, Ab.pyLt_i, Ab.pyLt_s, Ab.pyLe_i, Ab.pyLe_s, Ab.pyGt_i, Ab.pyGt_s, Ab.pyGe_i, Ab.pyGe_s, Ab.pyNeg_i, Ab.pyIn_l, Ab.pyIn_t, Ab.pyIn_s, Ab.pyIx_l, Ab.pyIx_t, Ab.pyIx_s, Ab.pySl_s, Ab.pySl_t, Ab.pySl_l, Ab.pyUpper_s, Ab.pyLower_s, Ab.pyEqO_o, Ab.pyEqO_rnon, Ab.pyEqO_rbl, Ab.pyEqO_rint, Ab.pyEqO_rstr, Ab.pyEqO_rlst, Ab.pyEqO_rtup, Ab.pyEqO_rdict, Ab.fnLen_s, Ab.fnLen_l, Ab.fnLen_t, Ab.fnLen_d, Ab.fnTup_l, Ab.fnTup_t, Ab.fnList_l, Ab.fnList_t,
  Ab.isNon_non, Ab.isNon_bl, Ab.isNon_int, Ab.isNon_str, Ab.isNon_lst, Ab.isNon_tup, Ab.isNon_dict, Ab.isNon_obj, Ab.isNon_rng, Ab.isStrD_non, Ab.isStrD_bl, Ab.isStrD_int, Ab.isStrD_str, Ab.isStrD_lst, Ab.isStrD_tup, Ab.isStrD_dict, Ab.isStrD_obj, Ab.isStrD_rng, Ab.isIntD_non, Ab.isIntD_bl, Ab.isIntD_int, Ab.isIntD_str, Ab.isIntD_lst, Ab.isIntD_tup, Ab.isIntD_dict, Ab.isIntD_obj, Ab.isIntD_rng, Ab.isBlD_non, Ab.isBlD_bl, Ab.isBlD_int, Ab.isBlD_str, Ab.isBlD_lst, Ab.isBlD_tup, Ab.isBlD_dict, Ab.isBlD_obj, Ab.isBlD_rng, Ab.isLstD_non, Ab.isLstD_bl, Ab.isLstD_int, Ab.isLstD_str, Ab.isLstD_lst, Ab.isLstD_tup, Ab.isLstD_dict, Ab.isLstD_obj, Ab.isLstD_rng, Ab.isTupD_non, Ab.isTupD_bl, Ab.isTupD_int, Ab.isTupD_str, Ab.isTupD_lst, Ab.isTupD_tup, Ab.isTupD_dict, Ab.isTupD_obj, Ab.isTupD_rng, Ab.isDicD_non, Ab.isDicD_bl, Ab.isDicD_int, Ab.isDicD_str, Ab.isDicD_lst, Ab.isDicD_tup, Ab.isDicD_dict, Ab.isDicD_obj, Ab.isDicD_rng, Ab.kn_non, Ab.kn_bl, Ab.kn_int, Ab.kn_str, Ab.kn_lst, Ab.kn_tup, Ab.kn_dict, Ab.kn_obj, Ab.kn_rng, Ab.tyOf_non, Ab.tyOf_bl, Ab.tyOf_int, Ab.tyOf_str, Ab.tyOf_lst, Ab.tyOf_tup, Ab.tyOf_dict, Ab.tyOf_rng, Ab.isObjD_obj, Ab.isObjD_non, Ab.isObjD_bl, Ab.isObjD_int, Ab.isObjD_str, Ab.isObjD_lst, Ab.isObjD_tup, Ab.isObjD_dict, Ab.isObjD_rng,
  D.int.injEq, D.str.injEq, D.bl.injEq, D.lst.injEq, D.tup.injEq, D.obj.injEq, D.ty.injEq, D.cls.injEq, Sl.d.injEq, Sl.o.injEq, Sl.x.injEq, Ow.l.injEq, Ow.i.injEq, Ow.m.injEq, List.cons.injEq, Bool.not_eq_true', decide_eq_true_eq, decide_eq_false_iff_not, if_true, if_false, Bool.not_true, Bool.not_false, Bool.false_eq_true, not_true_eq_false, not_false_eq_true, and_assoc, and_true, true_and, exists_eq_left', exists_eq_left, exists_eq_right, exists_eq, exists_and_left, exists_eq_right_right, reduceCtorEq, false_and, and_false, exists_false, exists_const, or_false, false_or,
  List.getElem?_cons_zero, List.getElem?_cons_succ, Option.some.injEq, List.set_cons_zero, List.set_cons_succ, List.getElem?_nil, List.set_nil, true_implies, forall_const, List.length_map, List.mem_singleton, eq_self, List.lookup_cons_self, Nat.zero_le, exists_eq', Nat.reduceLeDiff])
theorem tx_parts {n k : Nat} {y : Str} (h : Tx n k y) : (∀ z ∈ prt y, 43 ∉ cs z) ∧ (∀ z ∈ prt y, ∀ c ∈ cs z, c < 128) ∧ ((prt y).map (·.length)).sum + (prt y).length ≤ n + 1 ∧ (prt y).length ≤ k + 1 := by
  have w := prt_weight y
  have g := h.g.1
  have p := h.p
  exact ⟨prt_free y, fun z hz c hc => h.g.2 c (prt_mem y z hz c hc), by omega, by rw [prt_len]; omega⟩
theorem cut_len (y : Str) (lo hi : Option Int) : (cs (cutS y lo hi)).length ≤ (cs y).length := (cut_sub y lo hi).length_le
theorem tx_two {n k : Nat} {y : Str} (h : Tx n k y) {a b : Nat} (hab : a ≤ b) : Tx (2 * n) k (cutS y none (some (a : Int)) ++ cutS y (some (b : Int)) none) := by
  have g := h.g.1
  have c1 := cut_len y none (some (a : Int))
  have c2 := cut_len y (some (b : Int)) none
  have p := pls_two y a b hab
  have q := h.p
  refine ⟨⟨?_, fun c hc => ?_⟩, ?_⟩
  · rw [cs_app, List.length_append]
    omega
  · rw [cs_app] at hc
    exact (List.mem_append.mp hc).elim (h.g.cut _ _ c) (h.g.cut _ _ c)
  · unfold pls at p ⊢
    rw [cs_app, List.count_append]
    exact Nat.le_trans p q
theorem tx_glue {n k : Nat} {y m : Str} (h : Tx n k y) {a b : Nat} (hab : a ≤ b) (hm : Gn 1 m) : Tx (2 * n + 1) (k + 1) (cutS y none (some (a : Int)) ++ m ++ cutS y (some (b : Int)) none) := by
  have g := h.g.1
  have g1 := hm.1
  have c1 := cut_len y none (some (a : Int))
  have c2 := cut_len y (some (b : Int)) none
  have p := pls_two y a b hab
  have q := h.p
  have pm : (cs m).count 43 ≤ (cs m).length := List.count_le_length
  refine ⟨⟨?_, fun c hc => ?_⟩, ?_⟩
  · rw [cs_app, cs_app, List.length_append, List.length_append]
    omega
  · rw [cs_app, cs_app] at hc
    rcases List.mem_append.mp hc with hc | hc
    · exact (List.mem_append.mp hc).elim (h.g.cut _ _ c) (hm.2 c)
    · exact h.g.cut _ _ c hc
  · unfold pls at p q ⊢
    rw [cs_app, cs_app, List.count_append, List.count_append]
    omega
theorem cut_one {n k : Nat} {y : Str} (h : Tx n k y) (a : Nat) : Gn 1 (cutS y (some (a : Int)) (some ((a + 1 : Nat) : Int))) := by
  refine ⟨?_, h.g.cut _ _⟩
  unfold cutS
  rw [HT.sIx_nat, HT.sIx_nat]
  simp only [cs, List.length_take]
  omega
theorem perm_sum {xs ys : List Str} (h : xs.Perm ys) : (xs.map (·.length)).sum = (ys.map (·.length)).sum := (h.map _).sum_nat
section
variable {P : Program} {w : World} {K : PySem.W.Frag} {mg : Str → Option Value} {base : Heap}
def sSpoilt : DSp := fun ds A _ => ∃ z, ds = [.rng, .str z] ∧ Tx 100 10 z ∧ ∀ y, Tx 900 50 y → A (.str y)
def lenA (i : Nat) : Nat := if i = 0 then 100 else if i = 1 then 300 else 900
def plsA (i : Nat) : Nat := 10 + 2 * i
def SpoI (i : Nat) (ρ : Rho) : Prop := ∃ (a b c d e : Sl) (y : Str), ρ = [.d .rng, .d (.str y), a, b, c, d, e] ∧ Tx (lenA i) (plsA i) y
theorem ok_law_spoilt (T : Txt P K mg) : Fo true P w K mg base (L2.CX P w) 3 d_law_spoilt ["_law_rng_here", "_law_text_here"] (spD K 2 sSpoilt) := by
  obtain ⟨fd, F⟩ := T.dfn 23 (d := d_law_spoilt)
  refine fo_mk (k := 2) (m := 7) F sc_law_spoilt rfl rfl (fun cdv A outer s H E hg hr => (psd_cons (pss_cons (psd_for (ps_for (passes_of rfl) rfl (pid_r1 (pi_range1 rfl (T.free 39) (pda_cons (pa_cons (pd_call (pe_oX (ok_law_choice T) (T.glo 17) (b_law_choice) hg (hr.mono (by omega)) rfl (takes_of rfl rfl rfl rfl) (pda_cons (pa_cons (pd_var (pv 0)) (pda_cons (pa_cons (pd_frz (pdo_lst (pe_lst (pda_cons (pa_cons pd_int (pda_cons (pa_cons pd_int (pda_cons (pa_cons pd_int (pda_cons (pa_cons pd_int pda_nil))))))))))) pda_nil)))))) pda_nil)))) (pgd_name (vs := [2]) (pg_name (i := 2) sc_law_spoilt.nd rfl (Or.inl rfl))) (psd_cons (pss_cons (psd_par3 (ps_par3 (i := 3) (j := 4) (l := 5) (by rfl) sc_law_spoilt.nd rfl rfl rfl (by decide) (by decide) (by decide) rfl rfl rfl (pda_cons (pa_cons (pd_call (pe_oX (ok_law_draw T) (T.glo 16) (b_law_draw) hg (hr.mono (by omega)) rfl (takes_of rfl rfl rfl rfl) (pda_cons (pa_cons (pd_var (pv 0)) (pda_cons (pa_cons (pd_op od_add (pe_op op_addA (pd_fn cd_len (pe_callB call_lenA rfl (T.free 42) (by decide +kernel) (pda_cons (pa_cons (pd_var (pv 1)) pda_nil)))) pd_int)) pda_nil)))))) (pda_cons (pa_cons (pd_call (pe_oX (ok_law_draw T) (T.glo 16) (b_law_draw) hg (hr.mono (by omega)) rfl (takes_of rfl rfl rfl rfl) (pda_cons (pa_cons (pd_var (pv 0)) (pda_cons (pa_cons pd_int pda_nil)))))) (pda_cons (pa_cons (pd_frz (pdo_split (pe_split (pd_var (pv 1)) pd_str))) pda_nil)))))) (by rfl)))
      (pss_one (psd_if (ps_if (ptd_op (od_eq (neg := false)) (pt_cmpR (op_eqP hr.units) (pd_var (pv 4)) pd_int (nomark _))) (pss_one (psd_set (ps_set (i := 1) sc_law_spoilt.nd rfl (Or.inl rfl) (pd_op od_add (pe_op op_addA (pd_sl (pe_slice sl_any (pd_var (pv 1)) pod_none (pod_some (po_some (pd_var (pv 3)))))) (pd_sl (pe_slice sl_any (pd_var (pv 1)) (pod_some (po_some (pd_op od_add (pe_op op_addA (pd_var (pv 3)) pd_int)))) pod_none))))))) (pss_one (psd_if (ps_if (ptd_op od_lt (pt_cmpR op_ltA (pd_var (pv 4)) pd_int (nomark _))) (pss_one (psd_set (ps_set (i := 1) sc_law_spoilt.nd rfl (Or.inl rfl) (pd_op od_add (pe_op op_addA (pd_op od_add (pe_op op_addA (pd_sl (pe_slice sl_any (pd_var (pv 1)) pod_none (pod_some (po_some (pd_var (pv 3)))))) (pd_call (pe_oX (ok_law_choice T) (T.glo 17) (b_law_choice) hg (hr.mono (by omega)) rfl (takes_of rfl rfl rfl rfl) (pda_cons (pa_cons (pd_var (pv 0)) (pda_cons (pa_cons pd_str pda_nil)))))))) (pd_sl (pe_slice sl_any (pd_var (pv 1)) (pod_some (po_some (pd_op od_sub (pe_op op_sub (pd_op od_add (pe_op op_addA (pd_var (pv 3)) (pd_var (pv 4)))) pd_int)))) pod_none))))))) (pss_one (psd_if (ps_if (ptd_op (od_eq (neg := false)) (pt_cmpR (op_eqP hr.units) (pd_var (pv 4)) pd_int (nomark _))) (pss_one (psd_set (ps_set (i := 1) sc_law_spoilt.nd rfl (Or.inl rfl) (pd_m1 md_join (pe_join pd_str (pd_revL (pe_revL (pd_var (pv 5))))))))) (pss_one (psd_if (ps_if (ptd_op (od_eq (neg := false)) (pt_cmpR (op_eqP hr.units) (pd_var (pv 4)) pd_int (nomark _))) (pss_one (psd_set (ps_set (i := 1) sc_law_spoilt.nd rfl (Or.inl rfl) (pd_m1 md_join (pe_join pd_str (pd_op od_add (pe_op op_addA (pd_var (pv 5)) (pd_frz (pdo_lst (pe_lst (pda_cons (pa_cons (pd_call (pe_oX (ok_law_choice T) (T.glo 17) (b_law_choice) hg (hr.mono (by omega)) rfl (takes_of rfl rfl rfl rfl) (pda_cons (pa_cons (pd_var (pv 0)) (pda_cons (pa_cons (pd_var (pv 5)) pda_nil)))))) pda_nil)))))))))))) (pss_one (psd_if (ps_if (ptd_op (od_eq (neg := false)) (pt_cmpR (op_eqP hr.units) (pd_var (pv 4)) pd_int (nomark _))) (psd_cons (pss_cons (psd_set (ps_set (i := 6) sc_law_spoilt.nd rfl (Or.inl rfl) (pd_m0 md_upper (pe_upper (pd_sl (pe_slice sl_any (pd_var (pv 1)) (pod_some (po_some (pd_var (pv 3)))) (pod_some (po_some (pd_op od_add (pe_op op_addA (pd_var (pv 3)) pd_int))))))))))
      (pss_one (psd_set (ps_set (i := 1) sc_law_spoilt.nd rfl (Or.inl rfl) (pd_op od_add (pe_op op_addA (pd_op od_add (pe_op op_addA (pd_sl (pe_slice sl_any (pd_var (pv 1)) pod_none (pod_some (po_some (pd_var (pv 3)))))) (pd_var (pv 6)))) (pd_sl (pe_slice sl_any (pd_var (pv 1)) (pod_some (po_some (pd_op od_add (pe_op op_addA (pd_var (pv 3)) pd_int)))) pod_none))))))))) (pss_one (psd_set (ps_set (i := 1) sc_law_spoilt.nd rfl (Or.inl rfl) (pd_m1 md_join (pe_join pd_str (pd_frz (pdo_fn co_sortS (pe_callB cr_sortedS rfl (T.free 38) (by decide +kernel) (pda_cons (pa_cons (pd_op od_add (pe_op op_addA (pd_var (pv 5)) (pd_sl (pe_slice sl_any (pd_frz (pdo_lst (pe_lst (pda_cons (pa_cons pd_str (pda_cons (pa_cons pd_str pda_nil))))))) pod_none (pod_some (po_some (pd_op od_add (pe_op op_addA pd_int (pd_call (pe_oX (ok_law_draw T) (T.glo 16) (b_law_draw) hg (hr.mono (by omega)) rfl (takes_of rfl rfl rfl rfl) (pda_cons (pa_cons (pd_var (pv 0)) (pda_cons (pa_cons pd_int pda_nil)))))))))))))) pda_nil)))))))))))))))))))))))))))))
      (pss_one (psd_ret (ps_ret (pd_var (pv 1)))))))) ?_
  intro ds Q B hl h
  obtain ⟨z, rfl, hz, hA⟩ := h
  walk_at "rr"
  refine .inl ⟨_, rfl, List.cons_ne_nil _ _, by decide, fun x hx => ?_⟩
  have hj : ∃ j : Nat, x = .int j ∧ j ≤ 2 := by
    simp only [List.mem_cons, List.not_mem_nil, or_false] at hx
    rcases hx with rfl | rfl | rfl | rfl
    · exact ⟨0, rfl, by decide⟩
    · exact ⟨1, rfl, by decide⟩
    · exact ⟨1, rfl, by decide⟩
    · exact ⟨2, rfl, by decide⟩
  obtain ⟨j, rfl, hj⟩ := hj
  refine ⟨j, rfl, by omega, by omega, ?_⟩
  have ej : (rngL 0 (j : Int).toNat).length = j := by simp [rngL]
  refine ⟨SpoI, ⟨_, _, _, _, _, z, rfl, hz⟩, fun i x ρ hi hp => ?_, fun ρ hp => ?_⟩
  · obtain ⟨a, b, c, d, e, y, rfl, hy⟩ := hp
    have hi2 : i < 2 := by
      have := (List.getElem?_eq_some_iff.mp hi).1
      omega
    have hn1 : 100 ≤ lenA i ∧ lenA i ≤ 300 ∧ 2 * lenA i + 6 ≤ lenA (i + 1) ∧ plsA i ≤ 12 ∧ plsA (i + 1) = plsA i + 2 := by
      have : i = 0 ∨ i = 1 := by omega
      rcases this with rfl | rfl <;> decide
    obtain ⟨n1, n2, n3, n4, n5⟩ := hn1
    have next : ∀ (a b c d e : Sl) (y' : Str), Tx (2 * lenA i + 6) (plsA i + 2) y' → SpoI (i + 1) [.d .rng, .d (.str y'), a, b, c, d, e] := fun a b c d e y' h => ⟨a, b, c, d, e, y', rfl, h.le n3 (by omega)⟩
    have ly : (cs y).length ≤ 300 := Nat.le_trans hy.g.1 n2
    walk_at "rr"
    refine ⟨by omega, _, rfl, by omega, by omega, fun ka hka => ⟨7, rfl, by decide, by decide, fun kw hkw => ?_⟩⟩
    walk_at "rr"
    have c1 := cut_len y none (some (ka : Int))
    have ea : ((ka : Int) + 1) = ((ka + 1 : Nat) : Int) := by omega
    obtain ⟨p1, p2, p3, p4⟩ := tx_parts hy
    have jn : ∀ zs : List Str, (∀ z ∈ zs, 43 ∉ cs z) → (∀ z ∈ zs, ∀ c ∈ cs z, c < 128) → (zs.map (·.length)).sum + zs.length ≤ 2 * lenA i + 6 → zs.length ≤ plsA i + 3 → ∀ a b c d e,
        (zs.map (·.length)).sum + zs.length * (Str.ofString "+").length ≤ 16777216 ∧ SpoI (i + 1) [.d .rng, .d (.str (Txt.join "+" zs)), a, b, c, d, e] := fun zs q1 q2 q3 q4 a b c d e =>
      ⟨join_size q3 (by omega), next a b c d e _ ((tx_join q1 q2 q3).le (Nat.le_refl _) (by omega))⟩
    refine ⟨by decide +kernel, by omega, ?_⟩
    by_cases w0 : (kw : Int) = 0
    · rw [if_pos w0, ea]
      have c2 := cut_len y (some ((ka + 1 : Nat) : Int)) none
      exact ⟨by omega, by omega, by omega, next _ _ _ _ _ _ ((tx_two hy (Nat.le_succ ka)).le (by omega) (by omega))⟩
    rw [if_neg w0]
    by_cases w3 : (kw : Int) < 3
    · rw [if_pos w3]
      refine ⟨by omega, .inr (.inr ⟨_, rfl, by decide +kernel, by decide +kernel, fun c hc => ?_⟩)⟩
      have hc128 : c < 128 := List.all_eq_true.mp (show (cs (Str.ofString "+-aAz b1(:")).all (fun c => decide (c < 128)) = true by decide +kernel) c hc |> of_decide_eq_true
      have e2 : ((ka : Int) + kw - 1) = ((ka + kw - 1 : Nat) : Int) := by omega
      rw [e2]
      have c2 := cut_len y (some ((ka + kw - 1 : Nat) : Int)) none
      have l1 : (cs (⟨#[c]⟩ : Str)).length = 1 := rfl
      refine ⟨by rw [l1]; omega, by omega, by rw [cs_app, List.length_append, l1]; omega, next _ _ _ _ _ _ ((tx_glue hy (by omega) (one_gn hc128)).le (by omega) (by omega))⟩
    rw [if_neg w3]
    by_cases w3 : (kw : Int) = 3
    · rw [if_pos w3]
      refine ⟨(prt y).reverse, by rw [List.map_reverse], jn _ (fun z hz => p1 z (List.mem_reverse.mp hz)) (fun z hz => p2 z (List.mem_reverse.mp hz)) ?_ ?_ _ _ _ _ _⟩
      · rw [perm_sum (List.reverse_perm _), List.length_reverse]
        omega
      · rw [List.length_reverse]
        omega
    rw [if_neg w3]
    by_cases w4 : (kw : Int) = 4
    · rw [if_pos w4]
      refine .inl ⟨_, rfl, by simpa using prt_ne y, by rw [List.length_map]; show (prt y).length ≤ _; omega, fun x hx => ?_⟩
      obtain ⟨m, hm, rfl⟩ := List.mem_map.mp hx
      have lm := prt_short y m hm
      rw [← cs_len] at lm
      have hyl := hy.g.1
      have mm : ∀ z ∈ prt y ++ [m], z ∈ prt y := fun z hz => (List.mem_append.mp hz).elim id fun q => by rw [List.mem_singleton.mp q]; exact hm
      refine ⟨by show (prt y).length ≤ _; omega, prt y ++ [m], by rw [List.map_append]; rfl, jn _ (fun z hz => p1 z (mm z hz)) (fun z hz => p2 z (mm z hz)) ?_ ?_ _ _ _ _ _⟩
      · rw [List.map_append, List.sum_append, List.length_append]
        simp only [List.map_cons, List.map_nil, List.sum_cons, List.sum_nil, List.length_cons, List.length_nil]
        omega
      · rw [List.length_append]
        show (prt y).length + 1 ≤ _
        omega
    rw [if_neg w4]
    by_cases w5 : (kw : Int) = 5
    · rw [if_pos w5, ea]
      have c2 := cut_len y (some ((ka + 1 : Nat) : Int)) none
      have c3 := cut_len y (some (ka : Int)) (some ((ka + 1 : Nat) : Int))
      have g1 := upper_gn (cut_one hy ka)
      have g2 := g1.1
      refine ⟨by omega, by omega, by omega, by omega, by omega, by rw [cs_app, List.length_append]; omega, next _ _ _ _ _ _ ((tx_glue hy (Nat.le_succ ka) g1).le (by omega) (by omega))⟩
    rw [if_neg w5]
    refine ⟨2, rfl, by decide, by decide, fun t ht => ⟨_, rfl, ?_⟩⟩
    have ext : ∃ zs : List Str, Ab.cutD [D.str (Str.ofString "mm"), D.str (Str.ofString "nn")] none (some (1 + (t : Int))) = zs.map D.str ∧ zs.length ≤ 2 ∧ (zs.map (·.length)).sum ≤ 4 ∧ (∀ z ∈ zs, 43 ∉ cs z) ∧ ∀ z ∈ zs, ∀ c ∈ cs z, c < 128 := by
      have : t = 0 ∨ t = 1 := by omega
      rcases this with rfl | rfl
      · exact ⟨["mm"], rfl, by decide +kernel, by decide +kernel, by decide +kernel, by decide +kernel⟩
      · exact ⟨["mm", "nn"], rfl, by decide +kernel, by decide +kernel, by decide +kernel, by decide +kernel⟩
    obtain ⟨ns, e1, e2, e3, e4, e5⟩ := ext
    rw [e1]
    refine ⟨by rw [List.length_map]; show (prt y).length + _ ≤ _; omega, prt y ++ ns, by rw [List.map_append], by rw [List.length_append]; omega, fun ys hp hs => ?_⟩
    have mm : ∀ z ∈ ys, z ∈ prt y ∨ z ∈ ns := fun z hz => List.mem_append.mp (hp.mem_iff.mp hz)
    refine ⟨ys, rfl, jn _ (fun z hz => (mm z hz).elim (p1 z) (e4 z)) (fun z hz => (mm z hz).elim (p2 z) (e5 z)) ?_ ?_ _ _ _ _ _⟩
    · rw [perm_sum hp, hp.length_eq, List.map_append, List.sum_append, List.length_append]
      omega
    · rw [hp.length_eq, List.length_append]
      omega
  · obtain ⟨a, b, c, d, e, y, rfl, hy⟩ := hp
    walk_at "rr"
    rw [ej] at hy
    have : lenA j ≤ 900 := by unfold lenA; split; omega; split <;> omega
    exact hA y (hy.le this (by unfold plsA; omega))
end
end L12

set_option Elab.async false
set_option linter.all false
set_option maxRecDepth 100000
set_option maxHeartbeats 4000000
namespace L12
open PySem PySem.Spec PyProof.Rows L2 Ab
local macro_rules | `(tactic| walk_at "rr") => `(tactic| simp only [endsF, endsI, rho0, rhoI, List.map_cons, List.map_nil, List.length_cons, List.length_nil, List.replicate_succ, List.replicate_zero, List.cons_append, List.nil_append, Nat.reduceSub, Nat.reduceAdd, Nat.zero_add,
  dV_eq, dVat_d, gT_two, gT_three, dVat_o, Ab.okD_int, Ab.okD_bl, Ab.okD_non, Ab.okD_str, Ab.okD_tup0, Ab.okD_lst0, Ab.eqD_int, Ab.eqD_bl, Ab.eqD_str, dC, dOp, dUn, dChain, dAnd, dOr, dNot, dIfE, dNil, dCons, dTup, dLst, dF, dNext, dSeq, dBrk, dCnt, dExpr, dRet, dRetN, dIf, dSet, dSetO, dPar, dPar3, gN, dAsg, dFor, dItL, dItT, dItS, dItA, dR1, dR2, dComp, wipeR, dCall, dFn, dFnO, dSl, dNoP, dP, dM1, dM0, dSplit, dApp, dPop, dInO, dLenO, dSortSet, dFld, dStF, dMake, dMakeP, dMakeS, dMakeV, dProp, dCMeth, dCVal, dRaise, dTry, dHnd, endsX, offX, dXf, dIsX, dIsXB, dIsXT, dDnew, dFmt, dJs, dJoined, dCallK,
  pyIsN, pyEq, pyJoin, pyInO, fnAll, fnAny, fnAbs, fnMax, fnMin, fnStrI, fnSortS, fnIsi, fnIsO, fnRepr, fnReprS, fnLenO, fnStrO, Ab.Ow_d_l, Ab.Ow_d_i, Ab.Ow_d_m, Ab.pyAdd_i, Ab.pyAdd_s, Ab.pyAdd_l, Ab.pyAdd_t, Ab.pySub_i, Ab.pyMul_i, Ab.pyMul_s, Ab.pyMod_i, Ab.pyFdv_i, Ab.pyPow_i, Ab.pyLt_i, Ab.pyLt_s, Ab.pyLe_i, Ab.pyLe_s, Ab.pyGt_i, Ab.pyGt_s, Ab.pyGe_i, Ab.pyGe_s, Ab.pyNeg_i, Ab.pyIn_l, Ab.pyIn_t, Ab.pyIn_s, Ab.pyIx_l, Ab.pyIx_t, Ab.pyIx_s, Ab.pySl_s, Ab.pySl_t, Ab.pySl_l, Ab.pyUpper_s, Ab.pyLower_s, Ab.pyEqO_o, Ab.pyEqO_rnon, Ab.pyEqO_rbl, Ab.pyEqO_rint, Ab.pyEqO_rstr, Ab.pyEqO_rlst, Ab.pyEqO_rtup, Ab.pyEqO_rdict, Ab.fnLen_s, Ab.fnLen_l, Ab.fnLen_t, Ab.fnLen_d, Ab.fnTup_l, Ab.fnTup_t, Ab.fnList_l, Ab.fnList_t,
  Ab.isNon_non, Ab.isNon_bl, Ab.isNon_int, Ab.isNon_str, Ab.isNon_lst, Ab.isNon_tup, Ab.isNon_dict, Ab.isNon_obj, Ab.isNon_rng, Ab.isStrD_non, Ab.isStrD_bl, Ab.isStrD_int, Ab.isStrD_str, Ab.isStrD_lst, Ab.isStrD_tup, Ab.isStrD_dict, Ab.isStrD_obj, Ab.isStrD_rng, Ab.isIntD_non, Ab.isIntD_bl, Ab.isIntD_int, Ab.isIntD_str, Ab.isIntD_lst, Ab.isIntD_tup, Ab.isIntD_dict, Ab.isIntD_obj, Ab.isIntD_rng, Ab.isBlD_non, Ab.isBlD_bl, Ab.isBlD_int, Ab.isBlD_str, Ab.isBlD_lst, Ab.isBlD_tup, Ab.isBlD_dict, Ab.isBlD_obj, Ab.isBlD_rng, Ab.isLstD_non, Ab.isLstD_bl, Ab.isLstD_int, Ab.isLstD_str, Ab.isLstD_lst, Ab.isLstD_tup, Ab.isLstD_dict, Ab.isLstD_obj, Ab.isLstD_rng, Ab.isTupD_non, Ab.isTupD_bl, Ab.isTupD_int, Ab.isTupD_str, Ab.isTupD_lst, Ab.isTupD_tup, Ab.isTupD_dict, Ab.isTupD_obj, Ab.isTupD_rng, Ab.isDicD_non, Ab.isDicD_bl, Ab.isDicD_int, Ab.isDicD_str, Ab.isDicD_lst, Ab.isDicD_tup, Ab.isDicD_dict, Ab.isDicD_obj, Ab.isDicD_rng, Ab.kn_non, Ab.kn_bl, Ab.kn_int, Ab.kn_str, Ab.kn_lst, Ab.kn_tup, Ab.kn_dict, Ab.kn_obj, Ab.kn_rng, Ab.tyOf_non, Ab.tyOf_bl, Ab.tyOf_int, Ab.tyOf_str, Ab.tyOf_lst, Ab.tyOf_tup, Ab.tyOf_dict, Ab.tyOf_rng, Ab.isObjD_obj, Ab.isObjD_non, Ab.isObjD_bl, Ab.isObjD_int, Ab.isObjD_str, Ab.isObjD_lst, Ab.isObjD_tup, Ab.isObjD_dict, Ab.isObjD_rng,
  D.int.injEq, D.str.injEq, D.bl.injEq, D.lst.injEq, D.tup.injEq, D.obj.injEq, D.ty.injEq, D.cls.injEq, Sl.d.injEq, Sl.o.injEq, Sl.x.injEq, Ow.l.injEq, Ow.i.injEq, Ow.m.injEq, List.cons.injEq, Bool.not_eq_true', decide_eq_true_eq, decide_eq_false_iff_not, if_true, if_false, Bool.not_true, Bool.not_false, Bool.false_eq_true, not_true_eq_false, not_false_eq_true, and_assoc, and_true, true_and, exists_eq_left', exists_eq_left, exists_eq_right, exists_eq, exists_and_left, exists_eq_right_right, reduceCtorEq, false_and, and_false, exists_false, exists_const, or_false, false_or,
  List.getElem?_cons_zero, List.getElem?_cons_succ, Option.some.injEq, List.set_cons_zero, List.set_cons_succ, List.getElem?_nil, List.set_nil, true_implies, forall_const, List.length_map, List.mem_singleton, eq_self, List.lookup_cons_self, Nat.zero_le, exists_eq', Nat.reduceLeDiff])
section
variable {P : Program} {w : World} {K : PySem.W.Frag} {mg : Str → Option Value} {base : Heap}
theorem num_small {n : Nat} (h : n ≤ 4) : okR (.int n) = true ∧ (cs (shD (.int n))).length ≤ 1000000 ∧ ((n : Int)).natAbs.log2 < 1920 := by
  have : n = 0 ∨ n = 1 ∨ n = 2 ∨ n = 3 ∨ n = 4 := by omega
  rcases this with rfl | rfl | rfl | rfl | rfl <;> decide +kernel
theorem four_eq (a b c d : Str) : eqD (.lst [.str a, .str b, .str c, .str d]) (.lst [.str a, .str b, .str c, .str d]) = true := (eqD_lstS [a, b, c, d] [a, b, c, d]).trans (decide_eq_true rfl)
theorem lets43 : 43 ∉ cs lets := by decide +kernel
theorem nm_ok {z : Str} (h : nmS z = true) : 43 ∉ cs z ∧ ∀ c ∈ cs z, c < 128 := by
  rw [nm_def] at h
  simp only [Bool.and_eq_true, decide_eq_true_eq, List.all_eq_true] at h
  exact ⟨fun hc => lets43 (h.2.2 _ hc), fun c hc => lets128 c (h.2.2 c hc)⟩
theorem prt_of {ms : List Str} (h0 : ms ≠ []) (h : ∀ z ∈ ms, nmS z = true) : prt (Txt.join "+" ms) = ms := by
  have := TL.split_join (y := Str.ofString "+") (s := 43) (S := []) (by decide +kernel) (by decide +kernel) h0 fun p hp => (nm_ok (h p hp)).1
  first
  | exact this
  | rw [← TL.join_eq] at this; exact this
theorem mtx_lab {ms : List Str} (h : ∀ z ∈ ms, nmS z = true) : mtx (labS ms) = ms := by
  unfold mtx labS
  by_cases h0 : ms = []
  · rw [if_pos h0, if_pos rfl, h0]
  · rw [if_neg h0]
    have e := prt_of h0 h
    have ne : ¬ Txt.join (Str.ofString "+") ms = Str.ofString "-" := fun q => by
      rw [q] at e
      have e1 : prt (Str.ofString "-") = [Str.ofString "-"] := by decide +kernel
      have := h (Str.ofString "-") (by rw [← e, e1]; exact List.mem_singleton.mpr rfl)
      exact absurd this (by decide +kernel)
    rw [if_neg ne]
    exact e
theorem lab_text {ms : List Str} (h : LabM ms) : Tx 100 10 (labS ms) ∧ mtx (labS ms) = ms ∧ okTx (labS ms) = true := by
  have e := mtx_lab h.2.1
  refine ⟨?_, e, ?_⟩
  · unfold labS
    by_cases h0 : ms = []
    · rw [if_pos h0]
      exact ⟨by decide +kernel, by decide +kernel⟩
    · rw [if_neg h0]
      have s := nm_sum h.2.1
      have l := h.1
      exact (tx_join (n := 100) (fun z hz => (nm_ok (h.2.1 z hz)).1) (fun z hz => (nm_ok (h.2.1 z hz)).2) (by omega)).le (Nat.le_refl _) (by omega)
  · unfold okTx
    rw [e, decide_eq_true h.1, decide_eq_true h.2.2, List.all_eq_true.mpr h.2.1]
    rfl
theorem cut_take (ms : List Str) : Ab.cutD (ms.map D.str) none (some 1) = (ms.take 1).map D.str := by
  unfold Ab.cutD
  have e : HT.sIx (ms.map D.str).length (ms.map D.str).length (some (1 : Int)) = min 1 (ms.map D.str).length := HT.sIx_nat _ _ 1
  rw [e, HT.sIx_none, List.drop_zero, List.map_take, Nat.sub_zero]
  rw [List.take_eq_take_iff]
  omega
theorem lab_of (zs : List Str) (h : ∀ z ∈ zs, nmS z = true) (A : D → Prop) (B : Xd → Prop) (hl : zs.length ≤ 6) (h4 : (srt zs).length ≤ 4) (hA : A (labD (srt zs))) : sLawLab [D.tup (zs.map D.str)] A B := by
  refine ⟨_, .inr rfl, by rw [List.length_map]; exact hl, fun x hx => ?_, fun v hv => ?_, fun zs' e _ => ?_⟩
  · obtain ⟨m, hm, rfl⟩ := List.mem_map.mp hx
    have := nm_len (h m hm)
    exact okS_str (by omega)
  · rw [bad_none h] at hv
    cases hv
  · rw [← map_str_inj e]
    exact ⟨fun _ => hA, fun q => by omega⟩
theorem cut_drop (ms : List Str) : Ab.cutD (ms.map D.str) (some 1) none = (ms.drop 1).map D.str := by
  unfold Ab.cutD
  have e : HT.sIx (ms.map D.str).length 0 (some (1 : Int)) = min 1 (ms.map D.str).length := HT.sIx_nat _ _ 1
  rw [e, HT.sIx_none, List.map_drop]
  cases ms with
  | nil => rfl
  | cons m ms =>
    have e1 : min 1 ((m :: ms).map D.str).length = 1 := by simp
    rw [e1]
    exact List.take_of_length_le (by simp)
theorem lab_drop {ms : List Str} (h : LabM ms) : ms.drop 1 = srt (ms.drop 1) := by
  have pw : (ms.drop 1).Pairwise slt := by
    have := srt_pw ms
    rw [← h.2.2] at this
    exact this.sublist (List.drop_sublist 1 ms)
  exact srt_eq (sortedS_of_pairwise _ (pw.imp fun h => slt_le h)) (pw.imp fun h => slt_ne h) fun k => Iff.rfl
theorem lab_mk (zs : List Str) (A : List (Str × D) → Prop) (B : Xd → Prop) (h : ∀ z ∈ zs, nmS z = true) (hl : zs.length ≤ 6) (h4 : (srt zs).length ≤ 4) (hA : A [("own_marks", .tup ((srt zs).map D.str))]) : sLab [D.tup (zs.map D.str)] A B := by
  refine ⟨_, rfl, by rw [List.length_map]; omega, fun x hx => ?_, fun v hv => ?_, fun zs' e _ => ?_⟩
  · obtain ⟨m, hm, rfl⟩ := List.mem_map.mp hx
    have := nm_len (h m hm)
    exact okS_str (by omega)
  · rw [bad_none h] at hv
    cases hv
  · rw [← map_str_inj e]
    exact ⟨fun _ => hA, fun q => by omega⟩
theorem all_true {α : Type} (l : List α) : (l.map fun _ => true).all id = true := by simp
theorem mark_ok {x : D} (h : markB x = true) : okS x := by
  unfold markB at h
  simp only [Bool.and_eq_true] at h
  refine ⟨h.1, fun z e => ?_⟩
  subst e
  have := of_decide_eq_true h.2.1
  omega
theorem bl_repr (b : Bool) : okR (.bl b) = true ∧ (cs (shD (.bl b))).length ≤ 1000000 := by cases b <;> decide +kernel
theorem ko : Str.ofString "Label" ∈ own := by decide
theorem kl (ms : List Str) : kn own (labD ms) = true := (by decide : decide (Str.ofString "Label" ∈ own) = true)
def sSame : DSp := fun ds A _ => ∃ ms ns, ds = [labD ms, labD ns] ∧ LabM ms ∧ LabM ns ∧ A (.bl (decide (ms = ns)))
theorem ok_law_same (T : Txt P K mg) : Fo true P w K mg base (L2.CX P w) 3 d_law_same ["_law_one", "_law_other"] (spD K 2 sSame) := by
  obtain ⟨fd, F⟩ := T.dfn 24 (d := d_law_same)
  refine fo_mk (k := 2) (m := 2) F sc_law_same rfl rfl (fun cdv A outer s H E hg hr => (pss_one (psd_ret (ps_ret (pd_and (pe_and (pd_op (od_eqO (neg := false) (own_ok T) (nf_Label T)) (pe_cmpR (op_eqAll (eqc_Label T) (spc_Label_eq T) gd_false (hr.mono (by omega)) hr.units) (pd_var (pv 0)) (pd_var (pv 1)) (nomark _))) (pd_and (pe_and (pd_op (od_eqO (neg := false) (own_ok T) (nf_Label T)) (pe_cmpR (op_eqAll (eqc_Label T) (spc_Label_eq T) gd_false (hr.mono (by omega)) hr.units) (pd_var (pv 1)) (pd_var (pv 0)) (nomark _))) (pe_one (pd_not (pe_not (pd_op (od_eqO (neg := true) (own_ok T) (nf_Label T)) (pe_cmpR (op_neAll (eqc_Label T) (spc_Label_eq T) gd_false (hr.mono (by omega)) hr.units) (pd_var (pv 0)) (pd_var (pv 1)) (nomark _)))))))))))))) ?_
  intro ds Q B hl h
  obtain ⟨ms, ns, rfl, hm, hn, hA⟩ := h
  walk_at "rr"
  refine ⟨ko, ms, labD ns, rfl, kl _, .inl ⟨ns, rfl, _, rfl, ?_⟩⟩
  by_cases e : ms = ns
  · rw [if_pos (decide_eq_true e)]
    refine ⟨ko, ns, labD ms, rfl, kl _, .inl ⟨ms, rfl, _, rfl, ?_⟩⟩
    rw [if_pos (decide_eq_true e.symm)]
    refine ⟨ko, ms, labD ns, rfl, kl _, .inl ⟨ns, rfl, _, rfl, ?_⟩⟩
    rw [Bool.not_not]
    exact hA
  · rw [if_neg (by simp [e])]
    rw [decide_eq_false e] at hA
    exact hA
def sUnlike : DSp := fun ds A _ => ∃ ms y, ds = [labD ms, y] ∧ LabM ms ∧ ((∃ ns, y = labD ns ∧ LabM ns ∧ A (.bl (decide (ms ≠ ns)))) ∨ (kn own y = true ∧ y ≠ .rng ∧ (∀ C fs, y ≠ .obj C fs) ∧ A (.bl true)))
theorem ok_law_unlike (T : Txt P K mg) : Fo true P w K mg base (L2.CX P w) 3 d_law_unlike ["_law_one", "_law_other"] (spD K 2 sUnlike) := by
  obtain ⟨fd, F⟩ := T.dfn 25 (d := d_law_unlike)
  refine fo_mk (k := 2) (m := 2) F sc_law_unlike rfl rfl (fun cdv A outer s H E hg hr => (pss_one (psd_ret (ps_ret (pd_and (pe_and (pd_op (od_eqO (neg := true) (own_ok T) (nf_Label T)) (pe_cmpR (op_neAll (eqc_Label T) (spc_Label_eq T) gd_false (hr.mono (by omega)) hr.units) (pd_var (pv 0)) (pd_var (pv 1)) (nomark _))) (pd_and (pe_and (pd_op (od_eqO (neg := true) (own_ok T) (nf_Label T)) (pe_cmpR (op_neAll (eqc_Label T) (spc_Label_eq T) gd_false (hr.mono (by omega)) hr.units) (pd_var (pv 1)) (pd_var (pv 0)) (nomark _))) (pe_one (pd_not (pe_not (pd_op (od_eqO (neg := false) (own_ok T) (nf_Label T)) (pe_cmpR (op_eqAll (eqc_Label T) (spc_Label_eq T) gd_false (hr.mono (by omega)) hr.units) (pd_var (pv 0)) (pd_var (pv 1)) (nomark _)))))))))))))) ?_
  intro ds Q B hl h
  obtain ⟨ms, y, rfl, hm, hA⟩ := h
  rcases hA with ⟨ns, rfl, hn, hA⟩ | ⟨hk, ht, hy, hA⟩
  · walk_at "rr"
    refine ⟨ko, ms, labD ns, rfl, kl _, .inl ⟨ns, rfl, _, rfl, ?_⟩⟩
    by_cases e : ms = ns
    · rw [if_neg (by simp [e])]
      have e2 : decide (ms ≠ ns) = false := by simp [e]
      rw [e2] at hA
      exact hA
    · rw [if_pos (decide_eq_false e)]
      refine ⟨ko, ns, labD ms, rfl, kl _, .inl ⟨ms, rfl, _, rfl, ?_⟩⟩
      have e3 : ¬ ns = ms := fun h => e h.symm
      first
      | rw [if_pos (decide_eq_false e3)]
      | rw [if_pos (by rw [decide_eq_false e3]; rfl)]
      refine ⟨ko, ms, labD ns, rfl, kl _, .inl ⟨ns, rfl, _, rfl, ?_⟩⟩
      have e2 : decide (ms ≠ ns) = true := by simp [e]
      rw [decide_eq_false e]
      rw [e2] at hA
      exact hA
  · cases y with
    | obj C fs => exact absurd rfl (hy C fs)
    | _ =>
      walk_at "rr"
      first
      | exact ⟨ms, _, rfl, hk, .inr ⟨hy, _, rfl, (if_pos rfl).mpr ⟨rfl, ms, _, rfl, hk, .inr ⟨hy, _, rfl, (if_pos rfl).mpr ⟨ms, _, rfl, hk, .inr ⟨hy, _, rfl, hA⟩⟩⟩⟩⟩⟩
      | cases hk; done
      | exact absurd rfl ht
def sLR : DSp := fun ds A _ => ∃ (xs : List D) (zs : List Str), ds = [.rng, .lst xs, .tup ((srt zs).map D.str)] ∧ xs.length ≤ 6 ∧ xs = zs.map D.str ∧ (∀ z ∈ zs, nmS z = true) ∧ (srt zs).length ≤ 4 ∧ A (.bl true)
theorem ok_law_label_right (T : Txt P K mg) : Fo true P w K mg base (L2.CX P w) 7 d_law_label_right ["_law_rng_here", "_law_marks", "_law_due_here"] (spD K 3 sLR) := by
  obtain ⟨fd, F⟩ := T.dfn 26 (d := d_law_label_right)
  refine fo_mk (k := 6) (m := 14) F sc_law_label_right rfl rfl (fun cdv A outer s H E hg hr => (psd_cons (pss_cons (psd_asg (ps_asg (pd_tup (pe_tup (pda_cons (pa_cons (pd_call (pe_oX (ok_law_label T) (T.glo 21) (b_law_label) hg (hr.mono (by omega)) rfl (takes_of rfl rfl rfl rfl) (pda_cons (pa_cons (pd_var (pv 1)) pda_nil)))) (pda_cons (pa_cons (pd_call (pe_oX (ok_law_text T) (T.glo 26) (b_law_text) hg (hr.mono (by omega)) rfl (takes_of rfl rfl rfl rfl) (pda_cons (pa_cons (pd_var (pv 2)) pda_nil)))) pda_nil)))))) (pgd_tup (vs := [3, 4]) (is := [3, 4]) (pg_tup (n := 2) rfl (pgs_cons (pg_name (i := 3) sc_law_label_right.nd rfl (Or.inr rfl)) (pgs_cons (pg_name (i := 4) sc_law_label_right.nd rfl (Or.inl rfl)) pgs_nil))))))
      (psd_cons (pss_cons (psd_set (ps_set (i := 5) sc_law_label_right.nd rfl (Or.inl rfl) (pd_op od_add (pe_op op_addA (pd_op od_add (pe_op op_addA pd_str (pd_m1 md_join (pe_join pd_str (pd_frz (pdo_lc (pe_lc (own := [("_law_mark_here", 13)]) rfl sc_law_label_right.nd (pid_tup (pi_tup (pd_var (pv 2)))) (blkOk_by (own := [("_law_mark_here", 13)]) (N := N_law_label_right) (sc := defScope s_law_label_right) (by decide +kernel)) (fun _ _ _ _ _ => (pgd_name (vs := [13]) (pg_name (i := 13) sc_law_label_right.nd rfl (Or.inl rfl)))) (fun _ _ _ _ _ => pts_nil) (fun _ _ _ _ _ => (pd_fn cd_reprS (pe_callB Ab.call_repr_str rfl (T.free 48) (by decide +kernel) (pda_cons (pa_cons (pd_var (pv 13)) pda_nil)))))))))))) pd_str))))
      (psd_cons (pss_cons (psd_if (ps_if (ptd_op (od_eq (neg := true)) (pt_cmpR (op_neP hr.units) (pd_frz (pdo_lst (pe_lst (pda_cons (pa_cons (pd_fn cd_repr (pe_callB (call_reprP (hg rfl) hr.units) rfl (T.free 48) (by decide +kernel) (pda_cons (pa_cons (pd_prop (pe_Label_marks T (hr.mono (by omega)) (pd_var (pv 3)))) pda_nil)))) (pda_cons (pa_cons (pd_fn cd_repr (pe_callB (call_reprP (hg rfl) hr.units) rfl (T.free 48) (by decide +kernel) (pda_cons (pa_cons (pd_fn cd_lenO (pe_callB (call_lenO (spc_Label_len T) gd_false (hr.mono (by omega))) rfl (T.free 42) (by decide +kernel) (pda_cons (pa_cons (pd_var (pv 3)) pda_nil)))) pda_nil)))) (pda_cons (pa_cons (pd_fn cd_strO (pe_callTy (call_strO (spc_Label_str T) gd_false (hr.mono (by omega))) rfl (T.free 47) (by decide +kernel) (pda_cons (pa_cons (pd_var (pv 3)) pda_nil)))) (pda_cons (pa_cons (pd_fn cd_strO (pe_callB (call_reprO (spc_Label_repr T) gd_false (hr.mono (by omega))) rfl (T.free 48) (by decide +kernel) (pda_cons (pa_cons (pd_var (pv 3)) pda_nil)))) pda_nil))))))))))) (pd_frz (pdo_lst (pe_lst (pda_cons (pa_cons (pd_fn cd_repr (pe_callB (call_reprP (hg rfl) hr.units) rfl (T.free 48) (by decide +kernel) (pda_cons (pa_cons (pd_var (pv 2)) pda_nil)))) (pda_cons (pa_cons (pd_fn cd_strI (pe_callTy call_str_int rfl (T.free 47) (by decide +kernel) (pda_cons (pa_cons (pd_fn cd_len (pe_callB call_lenA rfl (T.free 42) (by decide +kernel) (pda_cons (pa_cons (pd_var (pv 2)) pda_nil)))) pda_nil)))) (pda_cons (pa_cons (pd_var (pv 4)) (pda_cons (pa_cons (pd_var (pv 5)) pda_nil))))))))))) (nomark _))) (pss_one (psd_ret (ps_ret pd_bl))) psd_nil))
      (psd_cons (pss_cons (psd_set (ps_set (i := 6) sc_law_label_right.nd rfl (Or.inl rfl) (pd_cmeth (C := "Label") (Ab.pe_cmethX (pd_c (pe_gr rfl (T.glo 14)) (fun _ _ => .cls _)) (read_Label T) (cm_Label_of_text T).choose_spec (ok_Label_of_text T).choose_spec.1 (ok_Label_of_text T).choose_spec.2.1 gd_false (hr.mono (by omega)) (takes_of rfl rfl rfl rfl) (pda_cons (pa_cons (pd_var (pv 4)) pda_nil))))))
      (psd_cons (pss_cons (psd_if (ps_if (PW.pt (pwd_or (pw_or (ptd_not (pt_not (pt_val (pd_call (pe_oX (ok_law_same T) (T.glo 28) (b_law_same) hg (hr.mono (by omega)) rfl (takes_of rfl rfl rfl rfl) (pda_cons (pa_cons (pd_var (pv 6)) (pda_cons (pa_cons (pd_var (pv 3)) pda_nil))))))))) (pwd_or (pw_or (ptd_not (pt_not (pt_val (pd_call (pe_oX (ok_law_same T) (T.glo 28) (b_law_same) hg (hr.mono (by omega)) rfl (takes_of rfl rfl rfl rfl) (pda_cons (pa_cons (pd_call (pe_oX (ok_law_label T) (T.glo 21) (b_law_label) hg (hr.mono (by omega)) rfl (takes_of rfl rfl rfl rfl) (pda_cons (pa_cons (pd_op od_add (pe_op op_addA (pd_revT (Ab.pe_revT (pd_var (pv 2)))) (pd_sl (pe_slice sl_any (pd_var (pv 2)) pod_none (pod_some (po_some pd_int)))))) pda_nil)))) (pda_cons (pa_cons (pd_var (pv 3)) pda_nil))))))))) (pw_or1 (ptd_op (od_eq (neg := true)) (pt_cmpR (op_neP hr.units) (pd_cval (C := "Label") (read_Label T) (cval_Label_MOST T).choose_spec (fun _ _ => .int _) (ClX.pe_cval (pd_c (pe_gr rfl (T.glo 14)) (fun _ _ => .cls _)))) pd_int (nomark _))))))))) (pss_one (psd_ret (ps_ret pd_bl))) psd_nil))
      (psd_cons (pss_cons (psd_set (ps_set (i := 7) sc_law_label_right.nd rfl (Or.inl rfl) (pd_frz (pdo_lst (pe_lst (pda_cons (pa_cons (pd_makeP (C := "Label") (Ab.pe_makeX (mk_Label T) (ok_Label_init T) (hr.mono (by omega)) rfl (T.glo 14) (takes_of rfl rfl rfl rfl) (pda_cons (pa_cons pd_str pda_nil)))) (pda_cons (pa_cons (pd_makeP (C := "Label") (Ab.pe_makeX (mk_Label T) (ok_Label_init T) (hr.mono (by omega)) rfl (T.glo 14) (takes_of rfl rfl rfl rfl) (pda_cons (pa_cons pd_str (pda_cons (pa_cons pd_str pda_nil)))))) (pda_cons (pa_cons (pd_ifE (pe_ifExp (ptd_op (od_eq (neg := true)) (pt_cmpR (op_neP hr.units) (pd_var (pv 2)) (pd_tup (pe_tup pda_nil)) (nomark _))) (pd_call (pe_oX (ok_law_label T) (T.glo 21) (b_law_label) hg (hr.mono (by omega)) rfl (takes_of rfl rfl rfl rfl) (pda_cons (pa_cons (pd_sl (pe_slice sl_any (pd_var (pv 2)) (pod_some (po_some pd_int)) pod_none)) pda_nil)))) (pd_makeP (C := "Label") (Ab.pe_makeX (mk_Label T) (ok_Label_init T) (hr.mono (by omega)) rfl (T.glo 14) (takes_of rfl rfl rfl rfl) (pda_cons (pa_cons pd_str pda_nil)))))) pda_nil)))))))))))
      (psd_cons (pss_cons (psd_if (ps_if (ptd_not (pt_not (pt_val (pd_fn cd_all (pe_callB (cr_all rfl) rfl (T.free 37) (by decide +kernel) (pda_cons (pa_cons (pd_frz (pdo_lcT (pe_lc (own := [("_law_other", 11)]) rfl sc_law_label_right.nd (pid_list (pi_list (pd_var (pv 7)))) (blkOk_by (own := [("_law_other", 11)]) (N := N_law_label_right) (sc := defScope s_law_label_right) (by decide +kernel)) (fun _ _ _ _ _ => (pgd_name (vs := [11]) (pg_name (i := 11) sc_law_label_right.nd rfl (Or.inl rfl)))) (fun _ _ _ _ _ => (pts_one (ptd_op (od_eq (neg := true)) (pt_cmpR (op_neP hr.units) (pd_prop (pe_Label_marks T (hr.mono (by omega)) (pd_var (pv 11)))) (pd_var (pv 2)) (nomark _))))) (fun _ _ _ _ _ => (pd_call (pe_oX (ok_law_unlike T) (T.glo 29) (b_law_unlike) hg (hr.mono (by omega)) rfl Ab.takes_no (pda_cons (pa_cons (pd_var (pv 3)) (pda_cons (pa_cons (pd_var (pv 11)) pda_nil)))))))))) pda_nil))))))) (pss_one (psd_ret (ps_ret pd_bl))) psd_nil))
      (psd_cons (pss_cons (psd_if (ps_if (ptd_not (pt_not (pt_val (pd_fn cd_all (pe_callB (cr_all rfl) rfl (T.free 37) (by decide +kernel) (pda_cons (pa_cons (pd_frz (pdo_lc (pe_lc (own := [("_law_thing", 10)]) rfl sc_law_label_right.nd (pid_tup (pi_tup (pd_tup (pe_tup (pda_cons (pa_cons pd_non (pda_cons (pa_cons (pd_var (pv 4)) (pda_cons (pa_cons (pd_var (pv 2)) (pda_cons (pa_cons (pd_frz (pdo_fn co_list (pe_callTy call_list_of rfl (T.free 50) (by decide +kernel) (pda_cons (pa_cons (pd_var (pv 2)) pda_nil))))) (pda_cons (pa_cons pd_int (pda_cons (pa_cons pd_bl (pda_cons (pa_cons (pd_fn cd_len (pe_callB call_lenA rfl (T.free 42) (by decide +kernel) (pda_cons (pa_cons (pd_var (pv 2)) pda_nil)))) (pda_cons (pa_cons (pd_frz (pdo_dnew pe_dnewK)) (pda_cons (pa_cons (pd_var (pv 5)) pda_nil)))))))))))))))))))))) (blkOk_by (own := [("_law_thing", 10)]) (N := N_law_label_right) (sc := defScope s_law_label_right) (by decide +kernel)) (fun _ _ _ _ _ => (pgd_name (vs := [10]) (pg_name (i := 10) sc_law_label_right.nd rfl (Or.inl rfl)))) (fun _ _ _ _ _ => pts_nil) (fun _ _ _ _ _ => (pd_call (pe_oX (ok_law_unlike T) (T.glo 29) (b_law_unlike) hg (hr.mono (by omega)) rfl Ab.takes_no (pda_cons (pa_cons (pd_var (pv 3)) (pda_cons (pa_cons (pd_var (pv 10)) pda_nil)))))))))) pda_nil))))))) (pss_one (psd_ret (ps_ret pd_bl))) psd_nil))
      (psd_cons (pss_cons (psd_set (ps_set (i := 8) sc_law_label_right.nd rfl (Or.inl rfl) (pd_op od_add (pe_op op_addA (pd_op od_add (pe_op op_addA (pd_frz (pdo_fn co_list (pe_callTy call_list_of rfl (T.free 50) (by decide +kernel) (pda_cons (pa_cons (pd_var (pv 2)) pda_nil))))) (pd_frz (pdo_lc (pe_lc (own := [("_law_turn", 12)]) rfl sc_law_label_right.nd (pid_r1 (pi_range1 rfl (T.free 39) (pda_cons (pa_cons pd_int pda_nil)))) (blkOk_by (own := [("_law_turn", 12)]) (N := N_law_label_right) (sc := defScope s_law_label_right) (by decide +kernel)) (fun _ _ _ _ _ => (pgd_name (vs := [12]) (pg_name (i := 12) sc_law_label_right.nd rfl (Or.inl rfl)))) (fun _ _ _ _ _ => pts_nil) (fun _ _ _ _ _ => (pd_call (pe_oX (ok_law_mark T) (T.glo 19) (b_law_mark) hg (hr.mono (by omega)) rfl Ab.takes_no (pda_cons (pa_cons (pd_var (pv 0)) (pda_cons (pa_cons (pd_frz (pdo_lst (pe_lst (pda_cons (pa_cons pd_str (pda_cons (pa_cons pd_str pda_nil))))))) pda_nil)))))))))))) (pd_frz (pdo_lst (pe_lst (pda_cons (pa_cons (pd_var (pv 4)) (pda_cons (pa_cons (pd_var (pv 2)) (pda_cons (pa_cons pd_non (pda_cons (pa_cons (pd_var (pv 3)) (pda_cons (pa_cons (pd_frz (pdo_lst (pe_lst pda_nil))) (pda_cons (pa_cons (pd_frz (pdo_dnew pe_dnewK)) (pda_cons (pa_cons pd_int (pda_cons (pa_cons pd_str pda_nil)))))))))))))))))))))))
      (psd_cons (pss_cons (psd_lc (ps_setLc (i := 9) (own := [("_law_thing", 10)]) rfl sc_law_label_right.nd rfl rfl (sw_true rfl rfl rfl (by decide +kernel)) (pid_list (pi_list (pd_var (pv 8)))) (blkOk_by (own := [("_law_thing", 10)]) (N := N_law_label_right) (sc := defScope s_law_label_right) (by decide +kernel)) (fun _ _ _ _ _ => (pgd_name (vs := [10]) (pg_name (i := 10) sc_law_label_right.nd rfl (Or.inl rfl)))) (fun _ _ _ _ _ => pts_nil) (fun _ _ _ _ _ => (pd_fn cd_repr (pe_callB (call_reprP (hg rfl) hr.units) rfl (T.free 48) (by decide +kernel) (pda_cons (pa_cons (pd_op (od_inO (neg := false)) (pe_cmpR (op_inO false (spc_Label_contains T) gd_false (hr.mono (by omega))) (pd_var (pv 10)) (pd_var (pv 3)) (by rfl))) pda_nil)))))))
      (pss_one (psd_ret (ps_ret (pd_op (od_eq (neg := false)) (pe_cmpR (op_eqP hr.units) (pd_var (pv 9)) (pd_frz (pdo_lc (pe_lc (own := [("_law_thing", 10)]) rfl sc_law_label_right.nd (pid_list (pi_list (pd_var (pv 8)))) (blkOk_by (own := [("_law_thing", 10)]) (N := N_law_label_right) (sc := defScope s_law_label_right) (by decide +kernel)) (fun _ _ _ _ _ => (pgd_name (vs := [10]) (pg_name (i := 10) sc_law_label_right.nd rfl (Or.inl rfl)))) (fun _ _ _ _ _ => pts_nil) (fun _ _ _ _ _ => (pd_fn cd_repr (pe_callB (call_reprP (hg rfl) hr.units) rfl (T.free 48) (by decide +kernel) (pda_cons (pa_cons (pd_and (pe_and (pd_call (pe_oX (ok_law_is_name T) (T.glo 18) (b_law_is_name) hg (hr.mono (by omega)) rfl Ab.takes_no (pda_cons (pa_cons (pd_var (pv 10)) pda_nil)))) (pe_one (pd_op (od_in (neg := false)) (pe_cmpR (op_inA hr.units) (pd_var (pv 10)) (pd_var (pv 2)) (by rfl)))))) pda_nil)))))))) (nomark _))))))))))))))))))))))))))) ?_
  intro ds Q B hl h
  obtain ⟨xs, zs, rfl, hx, ex, hz, h4, hA⟩ := h
  have okx : ∀ x ∈ xs, okS x := fun x hx => by
    rw [ex] at hx
    obtain ⟨m, hm, rfl⟩ := List.mem_map.mp hx
    have := nm_len (hz m hm)
    exact okS_str (by omega)
  have nb : ∀ (B : D → Prop), ∀ v, badD xs = some v → B v := fun B v hv => by
    rw [ex, bad_none hz] at hv
    cases hv
  have hml : LabM (srt zs) := ⟨h4, fun z h => hz z (mem_srt.mp h), (srt_congr fun k => mem_srt).symm⟩
  have zu : ∀ zs' : List Str, xs = zs'.map D.str → zs' = zs := fun zs' e => map_str_inj (e.symm.trans ex)
  have mk : ∀ (B : Xd → Prop) (A : D → Prop), A (labD (srt zs)) → sLawLab [D.lst xs] A B := fun B A h => ⟨xs, .inl rfl, hx, okx, fun v hv => nb (fun v => B (xName v)) v hv, fun zs' e hz' => by
    rw [zu zs' e]
    exact ⟨fun _ => h, fun h => by omega⟩⟩
  walk_at "rr"
  refine mk _ _ ?_
  generalize srt zs = ms at hml h4
  refine ⟨ms, .inr rfl, by omega, hml.2.1, ?_⟩
  walk_at "rr"
  have hjs := join_small (l := ms.map reprText) (by rw [List.length_map]; exact h4) fun z h => by
    obtain ⟨m, hm, rfl⟩ := List.mem_map.mp h
    exact nm_repr (hml.2.1 m hm)
  obtain ⟨j1, j2⟩ := hjs
  rw [cs_len] at j2
  have l6 : (cs (Str.ofString "Label(")).length = 6 := by decide +kernel
  have l1 : (cs (Str.ofString ")")).length = 1 := by decide +kernel
  refine lc_mapG ms D.str (fun m => .str (reprText m)) (by omega) (fun m hm Q h => ?_) ?_
  · walk_at "rr"
    have := nm_repr (hml.2.1 m hm)
    exact ⟨by omega, h⟩
  walk_at "rr"
  refine ⟨ms.map reprText, (by rw [List.map_map]; rfl), j1, by rw [l6]; omega, by rw [cs_app, List.length_append, l6, l1]; omega, ?_⟩
  have elt : (Str.ofString "Label(" ++ Txt.join (Str.ofString ", ") (ms.map reprText) ++ Str.ofString ")") = labT ms := rfl
  rw [elt]
  have w1 := shD_tupS_len (ms := ms) (b := 100) fun m hm => nm_repr (hml.2.1 m hm)
  obtain ⟨n1, n2, n3⟩ := num_small h4
  obtain ⟨t1, t2, t3⟩ := lab_text hml
  refine ⟨ms, rfl, okR_tupS ms, by omega, ms, rfl, (ms.length : Int), rfl, by omega, by omega, n1, n2, ms, rfl, hml, _, rfl, ms, rfl, hml, _, rfl, okR_tupS ms, by omega, n3, okD_lstS [_, _, _, _], okD_lstS [_, _, _, _], ?_⟩
  refine (if_neg fun h => absurd (h.symm.trans (four_eq _ _ _ _)) (by decide)).mpr ?_
  refine ⟨_, rfl, okS_str (by have := t1.g.1; omega), fun h => (by cases h), fun z e => ?_⟩
  cases e
  refine ⟨Nat.le_trans t1.g.1 (by decide), Nat.le_trans t1.p (by decide), fun h => absurd (h.symm.trans t3) (by decide), fun _ => ?_⟩
  rw [t2]
  refine ⟨ms, ms, rfl, hml, hml, _, rfl, ?_⟩
  rw [if_neg (by simp), cut_take, ← List.map_reverse, ← List.map_append]
  have mm : ∀ z ∈ ms.reverse ++ ms.take 1, z ∈ ms := fun z hz => (List.mem_append.mp hz).elim (fun h => List.mem_reverse.mp h) fun h => List.mem_of_mem_take h
  have lt := lab_of (ms.reverse ++ ms.take 1) fun z hz => hml.2.1 z (mm z hz)
  have es : srt (ms.reverse ++ ms.take 1) = ms := by
    refine Eq.trans (srt_congr fun k => ⟨fun h => mm k h, fun h => List.mem_append_left _ (List.mem_reverse.mpr h)⟩) hml.2.2.symm
  refine ⟨by rw [List.length_map, List.length_map, List.length_reverse, List.length_take]; omega, lt _ _ (by rw [List.length_append, List.length_reverse, List.length_take]; omega) (by rw [es]; exact h4) ?_⟩
  rw [es]
  refine ⟨ms, ms, rfl, hml, hml, _, rfl, ?_⟩
  rw [if_neg (by simp)]
  refine lab_mk ["q"] _ _ (by decide +kernel) (by decide +kernel) (by decide +kernel) (lab_mk ["q", "zz"] _ _ (by decide +kernel) (by decide +kernel) (by decide +kernel) ⟨okD_tupS ms, ?_⟩)
  have q1 : srt [Str.ofString "q"] = [Str.ofString "q"] := by decide +kernel
  have q2 : srt [Str.ofString "q", Str.ofString "zz"] = [Str.ofString "q", Str.ofString "zz"] := by decide +kernel
  have lq1 : LabM ["q"] := ⟨by decide, by decide +kernel, q1.symm⟩
  have lq2 : LabM ["q", "zz"] := ⟨by decide, by decide +kernel, q2.symm⟩
  rw [q1, q2]
  by_cases h0 : eqD (D.tup (ms.map D.str)) (D.tup []) = false
  case' pos =>
    rw [if_pos h0, cut_drop]
    have ed : ms.drop 1 = srt (ms.drop 1) := lab_drop hml
    refine lab_of (ms.drop 1) (fun z hz => hml.2.1 z (List.mem_of_mem_drop hz)) _ _ (by rw [List.length_drop]; omega) (by rw [← ed, List.length_drop]; omega) ?_
    rw [← ed]
    have ln : LabM (ms.drop 1) := ⟨by rw [List.length_drop]; omega, fun z hz => hml.2.1 z (List.mem_of_mem_drop hz), ed⟩
    generalize ms.drop 1 = ns at ln ed
    clear ed
  case' neg =>
    rw [if_neg h0]
    refine lab_mk ["q"] _ _ (by decide +kernel) (by decide +kernel) (by decide +kernel) ?_
    rw [q1]
  all_goals
    generalize [Str.ofString "q"] = a1 at lq1 q1
    generalize [Str.ofString "q", Str.ofString "zz"] = a2 at lq2 q2
    clear q1 q2
    refine lc_filterG [_, _, _] labD (fun _ => .bl true) (fun ls => decide (ls ≠ ms)) (by simp) (fun ls hls Q h => ?_) (fun ls hls hp Q h => ?_) ?_
    · walk_at "rr"
      refine ⟨ls, rfl, okD_tupS _, okD_tupS _, ?_⟩
      rw [eqD_tupS, ← decide_not]
      exact h
    · have ll : LabM ls := by
        simp only [List.mem_cons, List.not_mem_nil, or_false] at hls
        rcases hls with rfl | rfl | rfl <;> assumption
      have e : decide (ms ≠ ls) = true := decide_eq_true (Ne.symm (of_decide_eq_true hp))
      walk_at "rr"
      refine ⟨ms, _, rfl, hml, .inl ⟨ls, rfl, ll, ?_⟩⟩
      rw [e]
      exact h
    · walk_at "rr"
      refine ⟨(List.filter (fun ls => decide (ls ≠ ms)) _).map fun _ => true, by rw [List.map_map]; rfl, ?_⟩
      rw [all_true, if_neg (by decide)]
      refine lc_map (fun _ => .bl true) (by simp) (fun x hx Q h => ?_) ?_
      · have kx : kn own x = true ∧ x ≠ .rng ∧ ∀ C fs, x ≠ .obj C fs := by
          simp only [List.mem_cons, List.not_mem_nil, or_false] at hx
          rcases hx with rfl | rfl | rfl | rfl | rfl | rfl | rfl | rfl | rfl <;> exact ⟨rfl, nofun, nofun⟩
        walk_at "rr"
        exact ⟨ms, _, rfl, hml, .inr ⟨kx.1, kx.2.1, kx.2.2, h⟩⟩
      walk_at "rr"
      refine ⟨List.replicate 9 true, rfl, (if_neg (by decide)).mpr ⟨by decide, by decide, ?_⟩⟩
      refine lc_drawn (fun _ y => markB y = true ∨ y = .str "a" ∨ y = .str "q") (by decide) (fun x hx Q h => ?_) (fun ys hy he => ?_)
      · walk_at "rr"
        refine ⟨_, rfl, by simp, by simp, fun x hx => h x (.inr ?_), fun x hm => h x (.inl hm)⟩
        simpa using hx
      have hy6 : ys.length = 6 := hy
      have ty : ∀ y ∈ ys, okS y := fun y hyy => by
        obtain ⟨_, _, q | rfl | rfl⟩ := he y hyy
        · exact mark_ok q
        · exact okS_str (by decide +kernel)
        · exact okS_str (by decide +kernel)
      walk_at "rr"
      refine ⟨by omega, by rw [List.length_append, List.length_map]; omega, ?_⟩
      generalize eth : (List.map D.str ms ++ ys ++ [D.str (labS ms), D.tup (List.map D.str ms), D.non, labD ms, D.lst [], D.dict [], D.int 1, D.str (Str.ofString "Q")]) = th
      have tk : ∀ x ∈ th, okS x := by
        subst eth
        intro x hx
        rcases List.mem_append.mp hx with hx | hx
        · rcases List.mem_append.mp hx with hx | hx
          · obtain ⟨m, hm, rfl⟩ := List.mem_map.mp hx
            have := nm_len (hml.2.1 m hm)
            exact okS_str (by omega)
          · exact ty x hx
        · simp only [List.mem_cons, List.not_mem_nil, or_false] at hx
          rcases hx with rfl | rfl | rfl | rfl | rfl | rfl | rfl | rfl
          · exact okS_str (Nat.le_trans t1.g.1 (by decide))
          · exact ⟨rfl, nofun⟩
          · exact ⟨rfl, nofun⟩
          · exact ⟨kl ms, nofun⟩
          · exact ⟨rfl, nofun⟩
          · exact ⟨rfl, nofun⟩
          · exact ⟨rfl, nofun⟩
          · exact okS_str (by decide +kernel)
      have tl : th.length ≤ 1000000 := by
        subst eth
        simp only [List.length_append, List.length_map, List.length_cons, List.length_nil]
        omega
      clear eth
      refine lc_map (fun x => .str (shD (.bl (inLabD ms x)))) tl (fun x hx Q h => ?_) ?_
      · walk_at "rr"
        exact ⟨ms, x, rfl, tk x hx, _, rfl, (bl_repr _).1, (bl_repr _).2, h⟩
      walk_at "rr"
      refine lc_map (fun x => .str (shD (.bl (inLabD ms x)))) tl (fun x hx Q h => ?_) ?_
      · walk_at "rr"
        refine ⟨x, rfl, tk x hx, _, rfl, ?_⟩
        cases hn : isNmD x with
        | false =>
          have e : inLabD ms x = false := by
            cases x with
            | str z =>
              refine decide_eq_false fun q => ?_
              have hn : nmS z = false := hn
              rw [hml.2.1 z q] at hn
              cases hn
            | _ => rfl
          rw [e] at h
          exact (if_neg (by decide)).mpr ⟨(bl_repr _).1, (bl_repr _).2, h⟩
        | true =>
          obtain ⟨z, rfl⟩ := nmD_str hn
          rw [if_pos rfl]
          walk_at "rr"
          rw [inD_strs]
          exact ⟨okD_tupS ms, (bl_repr _).1, (bl_repr _).2, h⟩
      walk_at "rr"
      have e : th.map (fun x => D.str (shD (.bl (inLabD ms x)))) = (th.map fun x => shD (.bl (inLabD ms x))).map D.str := by rw [List.map_map]; rfl
      rw [e, eqD_lstS, decide_eq_true rfl]
      exact ⟨okD_lstS _, okD_lstS _, hA⟩
end
end L12

set_option Elab.async false
set_option linter.all false
set_option maxRecDepth 100000
set_option maxHeartbeats 4000000
namespace L12
open PySem PySem.Spec PyProof.Rows L2 Ab
local macro_rules | `(tactic| walk_at "rr") => `(tactic| simp only [endsF, endsI, rho0, rhoI, List.map_cons, List.map_nil, List.length_cons, List.length_nil, List.replicate_succ, List.replicate_zero, List.cons_append, List.nil_append, Nat.reduceSub, Nat.reduceAdd, Nat.zero_add,
  dV_eq, dVat_d, gT_two, gT_three, dVat_o, Ab.okD_int, Ab.okD_bl, Ab.okD_non, Ab.okD_str, Ab.okD_tup0, Ab.okD_lst0, Ab.eqD_int, Ab.eqD_bl, Ab.eqD_str, dC, dOp, dUn, dChain, dAnd, dOr, dNot, dIfE, dNil, dCons, dTup, dLst, dF, dNext, dSeq, dBrk, dCnt, dExpr, dRet, dRetN, dIf, dSet, dSetO, dPar, dPar3, gN, dAsg, dFor, dItL, dItT, dItS, dItA, dR1, dR2, dComp, wipeR, dCall, dFn, dFnO, dSl, dNoP, dP, dM1, dM0, dSplit, dApp, dPop, dInO, dLenO, dSortSet, dFld, dStF, dMake, dMakeP, dMakeS, dMakeV, dProp, dCMeth, dCVal, dRaise, dTry, dHnd, endsX, offX, dXf, dIsX, dIsXB, dIsXT, dDnew, dFmt, dJs, dJoined, dCallK,
  pyIsN, pyEq, pyJoin, pyInO, fnAll, fnAny, fnAbs, fnMax, fnMin, fnStrI, fnSortS, fnIsi, fnIsO, fnRepr, fnReprS, fnLenO, fnStrO, Ab.Ow_d_l, Ab.Ow_d_i, Ab.Ow_d_m, Ab.pyAdd_i, Ab.pyAdd_s, Ab.pyAdd_l, Ab.pyAdd_t, Ab.pySub_i, Ab.pyMul_i, Ab.pyMul_s, Ab.pyMod_i, Ab.pyFdv_i, Ab.pyPow_i, Ab.pyLt_i, Ab.pyLt_s, Ab.pyLe_i, Ab.pyLe_s, Ab.pyGt_i, Ab.pyGt_s, Ab.pyGe_i, Ab.pyGe_s, Ab.pyNeg_i, Ab.pyIn_l, Ab.pyIn_t, Ab.pyIn_s, Ab.pyIx_l, Ab.pyIx_t, Ab.pyIx_s, Ab.pySl_s, Ab.pySl_t, Ab.pySl_l, Ab.pyUpper_s, Ab.pyLower_s, Ab.pyEqO_o, Ab.pyEqO_rnon, Ab.pyEqO_rbl, Ab.pyEqO_rint, Ab.pyEqO_rstr, Ab.pyEqO_rlst, Ab.pyEqO_rtup, Ab.pyEqO_rdict, Ab.fnLen_s, Ab.fnLen_l, Ab.fnLen_t, Ab.fnLen_d, Ab.fnTup_l, Ab.fnTup_t, Ab.fnList_l, Ab.fnList_t,
  Ab.isNon_non, Ab.isNon_bl, Ab.isNon_int, Ab.isNon_str, Ab.isNon_lst, Ab.isNon_tup, Ab.isNon_dict, Ab.isNon_obj, Ab.isNon_rng, Ab.isStrD_non, Ab.isStrD_bl, Ab.isStrD_int, Ab.isStrD_str, Ab.isStrD_lst, Ab.isStrD_tup, Ab.isStrD_dict, Ab.isStrD_obj, Ab.isStrD_rng, Ab.isIntD_non, Ab.isIntD_bl, Ab.isIntD_int, Ab.isIntD_str, Ab.isIntD_lst, Ab.isIntD_tup, Ab.isIntD_dict, Ab.isIntD_obj, Ab.isIntD_rng, Ab.isBlD_non, Ab.isBlD_bl, Ab.isBlD_int, Ab.isBlD_str, Ab.isBlD_lst, Ab.isBlD_tup, Ab.isBlD_dict, Ab.isBlD_obj, Ab.isBlD_rng, Ab.isLstD_non, Ab.isLstD_bl, Ab.isLstD_int, Ab.isLstD_str, Ab.isLstD_lst, Ab.isLstD_tup, Ab.isLstD_dict, Ab.isLstD_obj, Ab.isLstD_rng, Ab.isTupD_non, Ab.isTupD_bl, Ab.isTupD_int, Ab.isTupD_str, Ab.isTupD_lst, Ab.isTupD_tup, Ab.isTupD_dict, Ab.isTupD_obj, Ab.isTupD_rng, Ab.isDicD_non, Ab.isDicD_bl, Ab.isDicD_int, Ab.isDicD_str, Ab.isDicD_lst, Ab.isDicD_tup, Ab.isDicD_dict, Ab.isDicD_obj, Ab.isDicD_rng, Ab.kn_non, Ab.kn_bl, Ab.kn_int, Ab.kn_str, Ab.kn_lst, Ab.kn_tup, Ab.kn_dict, Ab.kn_obj, Ab.kn_rng, Ab.tyOf_non, Ab.tyOf_bl, Ab.tyOf_int, Ab.tyOf_str, Ab.tyOf_lst, Ab.tyOf_tup, Ab.tyOf_dict, Ab.tyOf_rng, Ab.isObjD_obj, Ab.isObjD_non, Ab.isObjD_bl, Ab.isObjD_int, Ab.isObjD_str, Ab.isObjD_lst, Ab.isObjD_tup, Ab.isObjD_dict, Ab.isObjD_rng,
  D.int.injEq, D.str.injEq, D.bl.injEq, D.lst.injEq, D.tup.injEq, D.obj.injEq, D.ty.injEq, D.cls.injEq, Sl.d.injEq, Sl.o.injEq, Sl.x.injEq, Ow.l.injEq, Ow.i.injEq, Ow.m.injEq, List.cons.injEq, Bool.not_eq_true', decide_eq_true_eq, decide_eq_false_iff_not, if_true, if_false, Bool.not_true, Bool.not_false, Bool.false_eq_true, not_true_eq_false, not_false_eq_true, and_assoc, and_true, true_and, exists_eq_left', exists_eq_left, exists_eq_right, exists_eq, exists_and_left, exists_eq_right_right, reduceCtorEq, false_and, and_false, exists_false, exists_const, or_false, false_or,
  List.getElem?_cons_zero, List.getElem?_cons_succ, Option.some.injEq, List.set_cons_zero, List.set_cons_succ, List.getElem?_nil, List.set_nil, true_implies, forall_const, List.length_map, List.mem_singleton, eq_self, List.lookup_cons_self, Nat.zero_le, exists_eq', Nat.reduceLeDiff])
theorem ins_len (z : Str) : ∀ l : List Str, (insS z l).length ≤ l.length + 1
  | [] => by simp [insS]
  | y :: l => by
    unfold insS
    split
    · simp
    · split
      · simp
      · have := ins_len z l
        simp only [List.length_cons]
        omega
theorem srt_len : ∀ zs : List Str, (srt zs).length ≤ zs.length
  | [] => by simp [srt]
  | z :: zs => by
    have h1 := ins_len z (srt zs)
    have h2 := srt_len zs
    have e : srt (z :: zs) = insS z (srt zs) := rfl
    rw [e, List.length_cons]
    omega
/-- the texts of a list -/
def txts : List D → List Str
  | [] => []
  | .str z :: xs => z :: txts xs
  | _ :: xs => txts xs
theorem txts_map : ∀ zs : List Str, txts (zs.map D.str) = zs
  | [] => rfl
  | z :: zs => by
    show z :: txts (zs.map D.str) = _
    rw [txts_map zs]
def dueD (xs : List D) : D := match badD xs with
  | some v => .tup [.str "name", v]
  | none => if (srt (txts xs)).length ≤ 4 then .tup [.str "marks", .tup ((srt (txts xs)).map D.str)] else .tup [.str "many", .str "marks", .int 4]
theorem due_of {xs : List D} {A : D → Prop} {B : Xd → Prop} (h : xs.length ≤ 6) (hk : ∀ x ∈ xs, okS x) (hA : A (dueD xs)) : sDue [.lst xs] A B := by
  unfold dueD at hA
  refine ⟨xs, rfl, h, hk, fun v hv => ?_, fun zs e hz => ⟨fun h4 => ?_, fun h4 => ?_⟩⟩
  · rw [hv] at hA
    exact hA
  · rw [e, bad_none hz, txts_map] at hA
    rw [if_pos h4] at hA
    exact hA
  · rw [e, bad_none hz, txts_map] at hA
    rw [if_neg (by omega)] at hA
    exact hA
theorem all_names : ∀ {xs : List D}, badD xs = none → xs = (txts xs).map D.str ∧ ∀ z ∈ txts xs, nmS z = true
  | [], _ => ⟨rfl, nofun⟩
  | x :: xs, h => by
    unfold badD at h
    rw [List.find?_cons] at h
    cases hn : isNmD x with
    | false => rw [hn] at h; cases h
    | true =>
      rw [hn] at h
      obtain ⟨z, rfl⟩ := nmD_str hn
      obtain ⟨h1, h2⟩ := all_names (xs := xs) h
      refine ⟨?_, fun y hy => ?_⟩
      · show _ = D.str z :: (txts xs).map D.str
        rw [← h1]
      · rcases List.mem_cons.mp hy with rfl | hy
        · exact hn
        · exact h2 y hy
theorem bad_mem {xs : List D} {v : D} (h : badD xs = some v) : v ∈ xs ∧ isNmD v = false := by
  have h1 := List.mem_of_find?_eq_some h
  have h2 := List.find?_some h
  exact ⟨h1, by simpa using h2⟩
theorem filt_names : ∀ xs : List D, xs.filter isNmD = (txts (xs.filter isNmD)).map D.str ∧ (∀ z ∈ txts (xs.filter isNmD), nmS z = true) ∧ (txts (xs.filter isNmD)).length ≤ xs.length := fun xs => by
  have hb : badD (xs.filter isNmD) = none := by
    unfold badD
    rw [List.find?_eq_none]
    intro x hx
    rw [(List.mem_filter.mp hx).2]
    decide
  obtain ⟨h1, h2⟩ := all_names hb
  refine ⟨h1, h2, ?_⟩
  have : (xs.filter isNmD).length = (txts (xs.filter isNmD)).length := by
    have := congrArg List.length h1
    rw [List.length_map] at this
    exact this
  rw [← this]
  exact List.length_filter_le _ _
def readX (x : D) : D := match x with
  | .str z => readD z
  | _ => .tup [.str "refused", .str "string"]
def okT (x : D) : Prop := okS x ∧ ∀ z, x = .str z → (cs z).length ≤ 900 ∧ pls z ≤ 50
theorem read_of {x : D} {A : D → Prop} {B : Xd → Prop} (h : okT x) (hA : A (readX x)) : sRead [x] A B := by
  refine ⟨x, rfl, h.1, fun hn => ?_, fun z e => ?_⟩
  · cases x with
    | str z => cases hn
    | _ => exact hA
  · subst e
    obtain ⟨h1, h2⟩ := h.2 z rfl
    exact ⟨h1, h2, hA⟩
theorem read_repr (x : D) : okR (readX x) = true ∧ (cs (shD (readX x))).length ≤ 1000000 := by
  unfold readX
  split
  · unfold readD
    split
    · rename_i z h
      unfold okTx at h
      simp only [Bool.and_eq_true, decide_eq_true_eq, List.all_eq_true] at h
      have := shD_two_len (s := Str.ofString "marks") (ms := mtx z) (b := 100) (c := 100) (nm_repr (by decide +kernel)) fun m hm => nm_repr (h.2.1 m hm)
      exact ⟨okR_two _ _, by omega⟩
    · exact ⟨by decide +kernel, by decide +kernel⟩
  · exact ⟨by decide +kernel, by decide +kernel⟩
theorem lab_tx {ms : List Str} (h : ∀ z ∈ ms, nmS z = true) (hl : ms.length ≤ 6) : Tx 100 10 (labS ms) := by
  unfold labS
  by_cases h0 : ms = []
  · rw [if_pos h0]
    exact ⟨by decide +kernel, by decide +kernel⟩
  · rw [if_neg h0]
    have s := nm_sum h
    exact (tx_join (n := 100) (fun z hz => (nm_ok (h z hz)).1) (fun z hz => (nm_ok (h z hz)).2) (by omega)).le (Nat.le_refl _) (by omega)
def okTB (x : D) : Bool := kn own x && match x with
  | .str z => decide ((cs z).length ≤ 900) && decide (pls z ≤ 50)
  | _ => true
theorem okTB_ok {x : D} (h : okTB x = true) : okT x := by
  unfold okTB at h
  obtain ⟨h1, h2⟩ := Bool.and_eq_true_iff.mp h
  refine ⟨⟨h1, fun z e => ?_⟩, fun z e => ?_⟩
  · subst e
    have := of_decide_eq_true (Bool.and_eq_true_iff.mp h2).1
    omega
  · subst e
    exact ⟨of_decide_eq_true (Bool.and_eq_true_iff.mp h2).1, of_decide_eq_true (Bool.and_eq_true_iff.mp h2).2⟩
theorem mark_repr {x : D} (h : markB x = true) : okR (.tup [.str "name", x]) = true ∧ (cs (shD (.tup [.str "name", x]))).length ≤ 1000000 := by
  unfold markB at h
  simp only [Bool.and_eq_true] at h
  have := of_decide_eq_true h.2.2.2
  exact ⟨h.2.2.1, by omega⟩
def RgtI (pool ys due : D) (cl : List Str) (i : Nat) (ρ : Rho) : Prop := ∃ (a b c : Sl), ρ = [.d .rng, .d pool, a, .d ys, .d due, .d (.lst (cl.map D.str)), b, c]
section
variable {P : Program} {w : World} {K : PySem.W.Frag} {mg : Str → Option Value} {base : Heap}
theorem ok_law_right (T : Txt P K mg) : Fo true P w K mg base (L2.CX P w) 8 d_law_right ["_law_rng_here"] (spD K 1 sRight) := by
  obtain ⟨fd, F⟩ := T.dfn 27 (d := d_law_right)
  refine fo_mk (k := 7) (m := 8) F sc_law_right rfl rfl (fun cdv A outer s H E hg hr => (psd_cons (pss_cons (psd_set (ps_set (i := 1) sc_law_right.nd rfl (Or.inr rfl) (pd_call (pe_oX (ok_law_pool T) (T.glo 20) (b_law_pool) hg (hr.mono (by omega)) rfl (takes_of rfl rfl rfl rfl) (pda_cons (pa_cons (pd_var (pv 0)) pda_nil))))))
      (psd_cons (pss_cons (psd_lc (ps_setLc (i := 3) (own := [("_law_turn", 2)]) rfl sc_law_right.nd rfl rfl (sw_true rfl rfl rfl (by decide +kernel)) (pid_r1 (pi_range1 rfl (T.free 39) (pda_cons (pa_cons (pd_call (pe_oX (ok_law_draw T) (T.glo 16) (b_law_draw) hg (hr.mono (by omega)) rfl (takes_of rfl rfl rfl rfl) (pda_cons (pa_cons (pd_var (pv 0)) (pda_cons (pa_cons pd_int pda_nil)))))) pda_nil)))) (blkOk_by (own := [("_law_turn", 2)]) (N := N_law_right) (sc := defScope s_law_right) (by decide +kernel)) (fun _ _ _ _ _ => (pgd_name (vs := [2]) (pg_name (i := 2) sc_law_right.nd rfl (Or.inl rfl)))) (fun _ _ _ _ _ => pts_nil) (fun _ _ _ _ _ => (pd_call (pe_oX (ok_law_mark T) (T.glo 19) (b_law_mark) hg (hr.mono (by omega)) rfl Ab.takes_no (pda_cons (pa_cons (pd_var (pv 0)) (pda_cons (pa_cons (pd_var (pv 1)) pda_nil)))))))))
      (psd_cons (pss_cons (psd_set (ps_set (i := 4) sc_law_right.nd rfl (Or.inl rfl) (pd_call (pe_oX (ok_law_due T) (T.glo 22) (b_law_due) hg (hr.mono (by omega)) rfl (takes_of rfl rfl rfl rfl) (pda_cons (pa_cons (pd_var (pv 3)) pda_nil))))))
      (psd_cons (pss_cons (psd_if (ps_if (ptd_op (od_eq (neg := true)) (pt_cmpR (op_neP hr.units) (pd_fn cd_repr (pe_callB (call_reprP (hg rfl) hr.units) rfl (T.free 48) (by decide +kernel) (pda_cons (pa_cons (pd_call (pe_oX (ok_law_told T) (T.glo 23) (b_law_told) hg (hr.mono (by omega)) rfl (takes_of rfl rfl rfl rfl) (pda_cons (pa_cons (pd_var (pv 3)) pda_nil)))) pda_nil)))) (pd_fn cd_repr (pe_callB (call_reprP (hg rfl) hr.units) rfl (T.free 48) (by decide +kernel) (pda_cons (pa_cons (pd_var (pv 4)) pda_nil)))) (nomark _))) (pss_one (psd_ret (ps_ret pd_bl))) psd_nil))
      (psd_cons (pss_cons (psd_if (ps_if (PW.pt (pwd_and (pw_and (ptd_op (od_eq (neg := false)) (pt_cmpR (op_eqP hr.units) (pd_op od_ix (pe_ix ix_any (pd_var (pv 4)) pd_int (fun _ _ => rfl))) pd_str (nomark _))) (pw_and1 (ptd_not (pt_not (pt_val (pd_call (pe_oX (ok_law_label_right T) (T.glo 30) (b_law_label_right) hg (hr.mono (by omega)) rfl (takes_of rfl rfl rfl rfl) (pda_cons (pa_cons (pd_var (pv 0)) (pda_cons (pa_cons (pd_var (pv 3)) (pda_cons (pa_cons (pd_op od_ix (pe_ix ix_any (pd_var (pv 4)) pd_int (fun _ _ => rfl))) pda_nil))))))))))))))) (pss_one (psd_ret (ps_ret pd_bl))) psd_nil))
      (psd_cons (pss_cons (psd_set (ps_set (i := 5) sc_law_right.nd rfl (Or.inl rfl) (pd_frz (pdo_sortSet (Ab.pe_sortSet rfl rfl (T.free 38) rfl (T.free 49) (pd_frz (pdo_lcT (pe_lc (own := [("_law_mark_here", 7)]) rfl sc_law_right.nd (pid_list (pi_list (pd_var (pv 3)))) (blkOk_by (own := [("_law_mark_here", 7)]) (N := N_law_right) (sc := defScope s_law_right) (by decide +kernel)) (fun _ _ _ _ _ => (pgd_name (vs := [7]) (pg_name (i := 7) sc_law_right.nd rfl (Or.inl rfl)))) (fun _ _ _ _ _ => (pts_one (pt_val (pd_call (pe_oX (ok_law_is_name T) (T.glo 18) (b_law_is_name) hg (hr.mono (by omega)) rfl Ab.takes_no (pda_cons (pa_cons (pd_var (pv 7)) pda_nil))))))) (fun _ _ _ _ _ => (pd_var (pv 7)))))))))))
      (psd_cons (pss_cons (psd_for (ps_for (passes_of rfl) rfl (pid_r1 (pi_range1 rfl (T.free 39) (pda_cons (pa_cons pd_int pda_nil)))) (pgd_name (vs := [2]) (pg_name (i := 2) sc_law_right.nd rfl (Or.inl rfl))) (psd_cons (pss_cons (psd_set (ps_set (i := 6) sc_law_right.nd rfl (Or.inl rfl) (pd_call (pe_oX (ok_law_spoilt T) (T.glo 27) (b_law_spoilt) hg (hr.mono (by omega)) rfl (takes_of rfl rfl rfl rfl) (pda_cons (pa_cons (pd_var (pv 0)) (pda_cons (pa_cons (pd_call (pe_oX (ok_law_text T) (T.glo 26) (b_law_text) hg (hr.mono (by omega)) rfl (takes_of rfl rfl rfl rfl) (pda_cons (pa_cons (pd_var (pv 5)) pda_nil)))) pda_nil))))))))
      (psd_cons (pss_cons (psd_if (ps_if (ptd_op (od_eq (neg := false)) (pt_cmpR (op_eqP hr.units) (pd_call (pe_oX (ok_law_draw T) (T.glo 16) (b_law_draw) hg (hr.mono (by omega)) rfl (takes_of rfl rfl rfl rfl) (pda_cons (pa_cons (pd_var (pv 0)) (pda_cons (pa_cons pd_int pda_nil)))))) pd_int (nomark _))) (pss_one (psd_set (ps_set (i := 6) sc_law_right.nd rfl (Or.inl rfl) (pd_call (pe_oX (ok_law_choice T) (T.glo 17) (b_law_choice) hg (hr.mono (by omega)) rfl (takes_of rfl rfl rfl rfl) (pda_cons (pa_cons (pd_var (pv 0)) (pda_cons (pa_cons (pd_frz (pdo_lst (pe_lst (pda_cons (pa_cons pd_non (pda_cons (pa_cons pd_int (pda_cons (pa_cons pd_bl (pda_cons (pa_cons pd_str (pda_cons (pa_cons pd_str (pda_cons (pa_cons pd_str (pda_cons (pa_cons pd_str (pda_cons (pa_cons (pd_tup (pe_tup pda_nil)) (pda_cons (pa_cons (pd_frz (pdo_lst (pe_lst pda_nil))) (pda_cons (pa_cons (pd_frz (pdo_dnew pe_dnewK)) (pda_cons (pa_cons (pd_frz (pdo_lst (pe_lst (pda_cons (pa_cons pd_str pda_nil))))) (pda_cons (pa_cons (pd_tup (pe_tup (pda_cons (pa_cons pd_str pda_nil)))) (pda_cons (pa_cons pd_str (pda_cons (pa_cons pd_str (pda_cons (pa_cons pd_str pda_nil))))))))))))))))))))))))))))))))) pda_nil))))))))) psd_nil))
      (pss_one (psd_if (ps_if (ptd_op (od_eq (neg := true)) (pt_cmpR (op_neP hr.units) (pd_fn cd_repr (pe_callB (call_reprP (hg rfl) hr.units) rfl (T.free 48) (by decide +kernel) (pda_cons (pa_cons (pd_call (pe_oX (ok_law_read T) (T.glo 24) (b_law_read) hg (hr.mono (by omega)) rfl (takes_of rfl rfl rfl rfl) (pda_cons (pa_cons (pd_var (pv 6)) pda_nil)))) pda_nil)))) (pd_fn cd_repr (pe_callB (call_reprP (hg rfl) hr.units) rfl (T.free 48) (by decide +kernel) (pda_cons (pa_cons (pd_call (pe_oX (ok_law_read_due T) (T.glo 25) (b_law_read_due) hg (hr.mono (by omega)) rfl (takes_of rfl rfl rfl rfl) (pda_cons (pa_cons (pd_var (pv 6)) pda_nil)))) pda_nil)))) (nomark _))) (pss_one (psd_ret (ps_ret pd_bl))) psd_nil)))))))))
      (pss_one (psd_ret (ps_ret pd_bl)))))))))))))))))) ?_
  intro ds Q B hl h
  obtain ⟨rfl, hA⟩ := h
  walk_at "rr"
  refine ⟨rfl, fun pool hp0 hp5 hpn => ⟨7, rfl, by decide, by decide, fun k hk => ⟨_, rfl, by omega, by omega, ?_⟩⟩⟩
  have lr : (rngL 0 (k : Int).toNat).length = k := by simp [rngL]
  refine lc_drawn (fun _ y => markB y = true ∨ ∃ z, nmS z = true ∧ y = .str z) (by rw [lr]; omega) (fun x hx Q h => ?_) (fun ys hy he => ?_)
  · walk_at "rr"
    refine ⟨_, rfl, by simpa using hp0, by rw [List.length_map]; omega, fun x hx => ?_, fun x hm => h x (.inl hm)⟩
    obtain ⟨z, hz, rfl⟩ := List.mem_map.mp hx
    exact h _ (.inr ⟨z, hpn z hz, rfl⟩)
  rw [lr] at hy
  have l6 : ys.length ≤ 6 := by omega
  have ty : ∀ y ∈ ys, okS y := fun y hyy => by
    obtain ⟨_, _, q | ⟨z, hz, rfl⟩⟩ := he y hyy
    · exact mark_ok q
    · have := nm_len hz
      exact okS_str (by omega)
  walk_at "rr"
  refine due_of l6 ty (due_of l6 ty ?_)
  have rp : okR (dueD ys) = true ∧ (cs (shD (dueD ys))).length ≤ 1000000 := by
    unfold dueD
    cases hb : badD ys with
    | some v =>
      obtain ⟨hm, hn⟩ := bad_mem hb
      obtain ⟨_, _, q | ⟨z, hz, rfl⟩⟩ := he v hm
      · exact mark_repr q
      · have hn : nmS z = false := hn
        rw [hz] at hn
        cases hn
    | none =>
      obtain ⟨e1, e2⟩ := all_names hb
      dsimp only
      by_cases h4 : (srt (txts ys)).length ≤ 4
      · rw [if_pos h4]
        have := shD_two_len (s := Str.ofString "marks") (ms := srt (txts ys)) (b := 100) (c := 100) (nm_repr (by decide +kernel)) fun m hm => nm_repr (e2 m (mem_srt.mp hm))
        exact ⟨okR_two _ _, by omega⟩
      · rw [if_neg h4]
        exact ⟨by decide +kernel, by decide +kernel⟩
  refine ⟨rp.1, rp.2, rp.1, rp.2, ?_⟩
  rw [if_neg (by simp)]
  have step : dueD ys = (dueD ys) := rfl
  obtain ⟨f1, f2, f3⟩ := filt_names ys
  generalize edd : dueD ys = dd
  unfold dueD at edd
  cases hb : badD ys
  case' some v =>
    rw [hb] at edd
    subst edd
    walk_at "rr"
    refine ⟨_, rfl, rfl, (if_neg (by decide +kernel)).mpr ?_⟩
  case' none =>
    rw [hb] at edd
    obtain ⟨e1, e2⟩ := all_names hb
    by_cases h4 : (srt (txts ys)).length ≤ 4
    case' pos =>
      have edd : .tup [.str "marks", .tup ((srt (txts ys)).map D.str)] = dd := by rw [← edd]; exact (if_pos h4).symm
      subst edd
      walk_at "rr"
      refine ⟨_, rfl, rfl, (if_pos (by decide +kernel)).mpr ⟨_, rfl, ys, txts ys, rfl, l6, e1, e2, h4, true, rfl, (if_neg (by decide)).mpr ?_⟩⟩
    case' neg =>
      have edd : .tup [.str "many", .str "marks", .int 4] = dd := by rw [← edd]; exact (if_neg h4).symm
      subst edd
      walk_at "rr"
      refine ⟨_, rfl, rfl, (if_neg (by decide +kernel)).mpr ?_⟩
  all_goals
    refine lc_filter isNmD id (by omega) (fun x hx Q h => ?_) (fun x hx hp Q h => ?_) ?_
    · walk_at "rr"
      exact ⟨x, rfl, ty x hx, h⟩
    · walk_at "rr"
      exact h
    walk_at "rr"
    rw [List.map_id]
    refine ⟨txts (ys.filter isNmD), f1, by omega, by decide, by decide, ?_⟩
    have c1 := srt_len (txts (ys.filter isNmD))
    have c2 : ∀ z ∈ srt (txts (ys.filter isNmD)), nmS z = true := fun z hz => f2 z (mem_srt.mp hz)
    generalize srt (txts (ys.filter isNmD)) = cl at c1 c2
    refine ⟨RgtI _ _ _ cl, ⟨_, _, _, rfl⟩, fun i x ρ hi hp => ?_, fun ρ hp => ?_⟩
    · obtain ⟨a, b, c, rfl⟩ := hp
      walk_at "rr"
      refine ⟨cl, .inl rfl, by omega, c2, _, rfl, lab_tx c2 (by omega), fun y hy => ?_⟩
      walk_at "rr"
      refine ⟨8, rfl, by decide, by decide, fun k8 _ => ⟨rfl, ?_⟩⟩
      split
      · refine .inl ⟨_, rfl, List.cons_ne_nil _ _, by decide, fun x hx => ?_⟩
        have ox : okT x := okTB_ok (List.all_eq_true.mp (by decide +kernel) x hx)
        refine read_of ox ⟨(read_repr x).1, (read_repr x).2, read_of ox ⟨(read_repr x).1, (read_repr x).2, ?_⟩⟩
        rw [if_neg (by simp)]
        exact ⟨_, _, _, rfl⟩
      · have ox : okT (.str y) := ⟨okS_str (Nat.le_trans hy.g.1 (by decide)), fun z e => by cases e; exact ⟨hy.g.1, hy.p⟩⟩
        refine read_of ox ⟨(read_repr _).1, (read_repr _).2, read_of ox ⟨(read_repr _).1, (read_repr _).2, ?_⟩⟩
        rw [if_neg (by simp)]
        exact ⟨_, _, _, rfl⟩
    · obtain ⟨a, b, c, rfl⟩ := hp
      walk_at "rr"
      exact hA
end
end L12

set_option Elab.async false
set_option linter.all false
set_option maxRecDepth 100000
set_option maxHeartbeats 4000000
namespace L12
open PySem PySem.Spec PyProof.Rows L2 Ab
local macro_rules | `(tactic| walk_at "rd") => `(tactic| simp only [start_eq, List.map_cons, List.map_nil, List.length_cons, List.length_nil, List.replicate_succ, List.replicate_zero, List.cons_append, List.nil_append, Nat.reduceSub, Nat.reduceAdd, Nat.zero_add,
  tSeq, tAsg, tIf, tTest, tOp, tVar, tCB, tCons, tNil, tC, gName, tRet, tLst, tTup, tIfS, tPar3, tDrop, tB, tAnd, tOr, tNot, tAndV, tOrV, tNotV, tUn, tNext, tNever, gTup, gSub, gCons, gNil, rSetL, tPar, rCat, rRep, rAppend, rAll, rAny, tM0, tM1, tBM, tBM0, tDisp, tPairs, rIn, tChain, tPart, tFld, tFmt, tJs, rRepS, tSl, tNoPart, rSlS, tAug, ipI, tDGet, rSetD, tOX, tMkX, rSimE, rSimN, tDGet2, tFor_eq, tLc_eq, iRng1, iRng2, iList, iTup, iStr, rI0, rI, rU, rIxL, rIxT, rIxS, tO, gPos, StX.tMakeR, tDNewK, sFld, ClX.tCVal, rSortedS, rEq, rNe, scal_ii, scal_ss, scal_bb, scal_nn, scal_is, scal_si, cx_K, cx_Kn,
  V.int.injEq, V.ref.injEq, V.str.injEq, V.bl.injEq, List.cons.injEq, Bool.not_eq_true', decide_eq_true_eq, decide_eq_false_iff_not, if_true, if_false, Bool.not_true, Bool.not_false, Bool.false_eq_true, not_true_eq_false, not_false_eq_true, and_assoc, and_true, true_and, exists_eq_left', exists_eq_left, exists_and_left, reduceCtorEq, false_and, and_false, exists_false, or_false, false_or,
  List.getElem?_cons_zero, List.getElem?_cons_succ, Option.some.injEq, List.set_cons_zero, List.set_cons_succ])
local macro_rules | `(tactic| walk_at "rk") => `(tactic| simp only [start_eq, List.map_cons, List.map_nil, List.length_cons, List.length_nil, List.replicate_succ, List.replicate_zero, List.cons_append, List.nil_append, Nat.reduceSub, Nat.reduceAdd, Nat.zero_add,
  tSeq, tAsg, tTest, tOp, tVar, tCB, tCons, tNil, tC, gName, tRet, tLst, tTup, tIfS, tPar3, tDrop, tB, tAnd, tOr, tNot, tNotV, tUn, tNext, tNever, gTup, gSub, gCons, gNil, rSetL, tPar, rCat, rRep, rAppend, rAll, rAny, tM0, tM1, tBM, tBM0, tDisp, tPairs, rIn, tChain, tPart, tFld, tFmt, tJs, rRepS, tSl, tNoPart, rSlS, tAug, ipI, tDGet, rSetD, tOX, tMkX, rSimE, rSimN, tDGet2, tFor_eq, tLc_eq, iRng1, iRng2, iList, iTup, iStr, rI0, rI, rU, rIxL, rIxT, rIxS, tO, gPos, StX.tMakeR, tDNewK, sFld, ClX.tCVal, rSortedS, rEq, rNe, scal_ii, scal_ss, scal_bb, scal_nn, scal_is, scal_si, cx_K, cx_Kn,
  V.int.injEq, V.ref.injEq, V.str.injEq, V.bl.injEq, List.cons.injEq, Bool.not_eq_true', decide_eq_true_eq, decide_eq_false_iff_not, if_true, if_false, Bool.not_true, Bool.not_false, Bool.false_eq_true, not_true_eq_false, not_false_eq_true, and_assoc, and_true, true_and, exists_eq_left', exists_eq_left, exists_and_left, reduceCtorEq, false_and, and_false, exists_false, or_false, false_or,
  List.getElem?_cons_zero, List.getElem?_cons_succ, Option.some.injEq, List.set_cons_zero, List.set_cons_succ])
section
variable {P : Program} {w : World} {K : PySem.W.Frag} {mg : Str → Option Value} {base : Heap}
theorem raw_law_right (T : Txt P K mg) : Fo true P w K mg base CX0 8 d_law_right ["_law_rng_here"] spRight := Fo.imp (Fo.cx0 (ok_law_right T)) sp_right
def spLaw (K : PySem.W.Frag) : Sp := fun vs H Q _ => ∃ (a : Addr) (ns : List Int), vs = [.ref a] ∧ SqL K H a (ns.map V.int) ∧ ∀ H', Q (.bl true) H'
theorem ok_law (T : Txt P K mg) : Fo true P w K mg base CX0 9 d_law ["_law_script"] (spLaw K) := by
  obtain ⟨fd, F⟩ := T.dfn 28 (d := d_law)
  refine ⟨fd, Fq.mk' F sc_law (fun vs H Q E h => ?_) (fun cdv A outer s H vs Q E hg hr h => ?_), F⟩
  · obtain ⟨a, ns, rfl, _⟩ := h
    rfl
  obtain ⟨a, ns, rfl, hS, hQ⟩ := h
  refine ⟨_, (PSs.nox (pss_one (ps_ret (pe_callB (cr_all rfl) rfl (T.free 37) (by decide +kernel) (pa_cons (pe_lc (own := [("_law_k", 1)]) rfl sc_law.nd (pi_range1 rfl (T.free 39) (pa_cons (pe_callB (call_max2 rfl) rfl (T.free 44) (by decide +kernel) (pa_cons pe_int (pa_cons (pe_callB (call_min2 rfl) rfl (T.free 52) (by decide +kernel) (pa_cons (pe_callB call_len_seq rfl (T.free 42) (by decide +kernel) (pa_cons (pv 0) pa_nil)) (pa_cons pe_int pa_nil))) pa_nil))) pa_nil)) (blkOk_by (own := [("_law_k", 1)]) (N := N_law) (sc := defScope s_law) (by decide +kernel)) (fun _ _ _ _ _ => (pg_name (i := 1) sc_law.nd rfl (Or.inl rfl))) (fun _ _ _ _ _ => pts_nil) (fun _ _ _ _ _ => (pe_o (raw_law_right T) (T.glo 31) (b_law_right) hg (hr.mono (by omega)) rfl pass0 (pa_cons (pe_o (raw_law_rng T) (T.glo 15) (b_law_rng) gd_false (hr.mono (by omega)) rfl pass0 (pa_cons (pv 0) (pa_cons (pv 1) pa_nil))) pa_nil)))) pa_nil))))), ?_⟩
  walk_at "rd"
  refine ⟨_, .inl hS, ?_⟩
  generalize hm : (if (if (6 : Int) < ((List.map V.int ns).length : Int) then (6 : Int) else ((List.map V.int ns).length : Int)) > 1 then if (6 : Int) < ((List.map V.int ns).length : Int) then (6 : Int) else ((List.map V.int ns).length : Int) else 1) = m
  have m0 : 0 ≤ m ∧ m ≤ 6 := by
    rw [← hm]
    split <;> split <;> omega
  refine ⟨by omega, by omega, ?_⟩
  refine lc_val walk_range (fun _ _ => trivial) (by omega) (fun _ => .bl true) ?_ ?_
  · rintro i x H1 H2 hi e ⟨rfl, rfl⟩ Qn k
    walk_at "rd"
    refine ⟨rfl, _, rfl, _, rfl, a, ns, _, rfl, ex_seqL e hS, by omega, by omega, fun p H3 hp e3 hR => ⟨p, rfl, hR, fun H4 d4 => k _ fun b o q => ?_⟩⟩
    exact d4.get (ne_of_none q hp) (e3 _ _ q)
  · intro D H' hD e hl
    refine ⟨D, rfl, List.replicate m.toNat true, SqL.of (hl.trans ?_), ?_⟩
    · simp [List.map_const']
    · have e1 : (List.replicate m.toNat true).all id = true := by
        rw [List.all_eq_true]
        intro b hb
        exact (List.mem_replicate.mp hb).2
      rw [e1]
      exact hQ _
end
end L12

set_option Elab.async false
set_option linter.all false
set_option maxRecDepth 100000
set_option maxHeartbeats 0
namespace L12
open PySem PySem.Spec PyProof.Rows L2 Ab
abbrev R : PySem.W.OpenRow := PySem.W.OpenLaw.row PySem.Challenge.rw_aboveless_k12_labels_made_and_read
abbrev hk : PySem.W.Hook := hookZ 6 fa fn xn zn exB
def ob (s : PySem.W.SharedT) : AlZ := obsZG 6 fa fn xn zn exB (HandSHeadRun.getT s)
theorem ob_eq (s : PySem.W.SharedT) : ob s = hk.obs s.abs := obsZG_eq (HandSHeadRun.getT_eq s)
def names : List PySem.Str := (["_wall", "InvalidError", "InvalidName", "InvalidLabel", "InvalidText", "LimitError", "TooMany", "LETTERS", "LONGEST_NAME", "is_name", "BETWEEN_MARKS", "NO_MARKS"] : List PySem.Str) ++ (["want_label", "marks_in_order", "Label", "_law_rng", "_law_draw", "_law_choice", "_law_is_name", "_law_mark", "_law_pool", "_law_label", "_law_due", "_law_told"] : List PySem.Str) ++ (["_law_read", "_law_read_due", "_law_text", "_law_spoilt", "_law_same", "_law_unlike", "_law_label_right", "_law_right"] : List PySem.Str)
theorem hrun (w : World) : HandSHeadRun.RunEq R (PySem.W.view R.prog [36]) hk ob 6000 names w := by
  intro os
  kernel_rfl
theorem pfile : PFile (PySem.Challenge.rw_aboveless_k12_labels_made_and_read).prog := ⟨by kernel_rfl, by kernel_rfl⟩
end L12

set_option Elab.async false
set_option linter.all false
set_option maxRecDepth 100000
set_option maxHeartbeats 0
open PySem PySem.W PySem.Calls PyProof.Rows
theorem PySem.Challenge.cw_aboveless_k12_labels_made_and_read_holds : PySem.Challenge.rw_aboveless_k12_labels_made_and_read.Holds := by
  w_on; o_law
  refine HandSHeadRun.head_any (r := OpenLaw.row PySem.Challenge.rw_aboveless_k12_labels_made_and_read) (q := view (OpenLaw.row PySem.Challenge.rw_aboveless_k12_labels_made_and_read).prog [36]) (H := L12.hk) (ob := L12.ob) (M := 6000) (loose := L12.names) (d := HandSHeadRun.topDef (OpenLaw.row PySem.Challenge.rw_aboveless_k12_labels_made_and_read).prog 36) (kwd := []) L12.ob_eq
    (by kernel_rfl) (fun s => by kernel_rfl) L12.hrun (by kernel_rfl) (by kernel_rfl) (by kernel_rfl) (by rfl) (by first | assumption | decide +kernel) (by decide +kernel) ⟨rfl, rfl, rfl, rfl, rfl, by decide +kernel⟩ ?hw ?hc
  case hw => w_witness2
  case hc =>
    refine Ab.walk_q (l := PySem.Challenge.rw_aboveless_k12_labels_made_and_read) (n := 63) (k := 9) (x := "_law_script") rfl (by decide) (by kernel_rfl) ⟨rfl, by decide, by decide⟩ ?F
    intro w mg f h Y G hmg0
    obtain ⟨K, KX, c, cx, zx⟩ := Y
    have hmg : mg ("law" : PySem.Str) = some (.ref f) := by
      have e : (HandSHeadRun.topDef (OpenLaw.row PySem.Challenge.rw_aboveless_k12_labels_made_and_read).prog 36).name = ("law" : PySem.Str) := by kernel_rfl
      rw [← e]
      exact hmg0
    have T : L12.Txt (PySem.Challenge.rw_aboveless_k12_labels_made_and_read).prog K mg := ⟨⟨⟨⟨h, KX, G⟩, c⟩, L12.pfile, cx⟩, zx⟩
    have ef := hmg.symm.trans (T.glo 32 (x := "law"))
    cases ef
    obtain ⟨fd, FD⟩ := T.dfn 28 (d := L12.d_law)
    have b := L2.FunD.bindsA (ps := ["_law_script"]) FD fun _ _ _ _ _ _ us hl => match us, hl with | [_], _ => rfl
    refine ⟨K, fd, L12.spLaw K, KX, fun s u => b s [u] rfl, fun H a ns hl hS => ⟨a, ns, rfl, hS, fun _ => rfl⟩, fun base _ _ => ?_⟩
    obtain ⟨fd', F', FD'⟩ := L12.ok_law (P := (PySem.Challenge.rw_aboveless_k12_labels_made_and_read).prog) (w := w) (base := base) T
    exact Ab.fd_eq FD FD' ▸ F'
