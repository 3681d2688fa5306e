import PyProof.Rows.All
import Wide.All
import OpenK.AllK
import Wide.FinOn
import KE.KStateDown
import HandS.ForMost
import HandS.Flow
import HandS.Exc
import HandS.IsInst
import HandS.Star
import HandS.Defaults
import HandS.Wide
import HandS.WideBits
import HandS.EndBits
import HandS.HeadHook1
import HandS.HeadHook2
import HandS.HeadEnd
import HandS.Head2
import HandS.ClsMeth
import HandS.FStr
import HandS.Walk
import PyProof.ReprRoads
import PyProof.ReprNest
import PyProof.ReprDict
import HandS.FromBytesMap
import HandS.Ends
import PySem.Challenge.RW_aboveless_k11_values_judged
set_option Elab.async false
set_option linter.all false
set_option maxRecDepth 100000
set_option maxHeartbeats 4000000
/-! AbA: defs with a guard's flag, by name. -/
namespace Ab
open PySem PySem.Spec PyProof.Rows L2
/-- no repr runs around (asked only where g is true) -/
def Gd (g : Bool) (A : Around) : Prop := g = true → A.guards = some []
theorem gd_deeper {g : Bool} {A : Around} (h : Gd g A) (env : Env) : Gd g (A.deeper env) := fun e => by
  have q := h e
  simp [Around.deeper, q]
theorem gd_false {A : Around} : Gd false A := fun e => by cases e
theorem gd_up {g : Bool} {A : Around} (h : A.guards = some []) : Gd g A := fun _ => h
/-- a def's promise: as FnOk, with the flag -/
structure Fq (g : Bool) (P : Program) (w : World) (K : PySem.W.Frag) (mg : Str → Option Value) (base : Heap)
    (CX : CXT) (k : Nat) (f : Addr) (fd : FuncData) (ps : List Str) (sp : Sp) : Prop where
  len : ∀ vs H Q E, sp vs H Q E → vs.length = ps.length
  go : ∀ (A : Around) (outer : List Env) (s : Shared) (H : Hp) (args : Args) (us : List Value) (vs : List V) (Q : VK) (E : XK),
    Gd g A → Room k A → Env0 P w K mg base A outer s H → BindsTo s fd args (ps.zip us) → Vals vs us → sp vs H Q E →
      codeAny (model P w) A (.call (.ref f) args) (CR CX outer P w H s Q E) s
theorem Fq.of {P : Program} {w : World} {K : PySem.W.Frag} {mg : Str → Option Value} {base : Heap} {CX : CXT} {k : Nat}
    {f : Addr} {fd : FuncData} {ps : List Str} {sp : Sp} (F : FnOk P w K mg base CX k f fd ps sp) :
    Fq false P w K mg base CX k f fd ps sp :=
  ⟨F.len, fun A outer s H args us vs Q E _ hr => F.run A outer s H args us vs Q E hr⟩
section
variable {g : Bool} {P : Program} {w : World} {K : PySem.W.Frag} {mg : Str → Option Value} {base : Heap} {CX : CXT} {k : Nat}
  {f : Addr} {fd : FuncData} {ps N : List Str} {sp : Sp} {x qual : Str} {params : Arguments} {body : List Stmt} {scope : Scope}
  {dvs : List V} {kws : List (Str × V)}
/-- a def by its body -/
theorem Fq.mk' (F : FunD K x qual params body scope dvs kws f fd) (S : FnScope N ps scope)
    (len : ∀ vs H Q E, sp vs H Q E → vs.length = ps.length)
    (hbody : ∀ (cdv : Value) (A : Around) (outer : List Env) (s : Shared) (H : Hp) (vs : List V) (Q : VK) (E : XK),
      Gd g (A.deeper (envOfC qual scope s.heap.objs.size f cdv)) →
      Room k (A.deeper (envOfC qual scope s.heap.objs.size f cdv)) → sp vs H Q E →
      ∃ t, PSs (cxOf CX P w K mg base N qual scope f cdv A outer s H E) body t ∧
        t { nx := fun _ H' => Q .non H', rt := Q } (start N vs) H) :
    Fq g P w K mg base CX (k + 1) f fd ps sp := by
  obtain ⟨oc, od, dV, kV, doc, pm, an, cdv, ct, osl, rfl, lk, hcd, _, _⟩ := F.ex
  refine ⟨len, fun A outer s H args us vs Q E hg hr e0 hb r hsp => ?_⟩
  have KX : K.In s.heap := e0.mod.kin.keeps fun b o e => (e0.bs b o e).1
  have lim : s.heap.NoLimit := e0.mod.nolimit.keeps fun b o e => (e0.bs b o e).1
  have kinds : ∀ y ∈ ps.zip us, scope.names.lookup y.1 = some .local ∨
      (scope.names.lookup y.1 = some .cell ∧ ((cellsFrom (s.heap.objs.size + 1) scope.names []).lookup y.1).isSome = true) := by
    rintro ⟨n, v⟩ hy
    rcases S.par n (List.of_mem_zip hy).1 with q | q
    · exact Or.inl q
    · exact Or.inr ⟨q, PySem.W.cellsFrom_some _ _ _ (Or.inl q)⟩
  refine codeAny_call_function hr.depth (KX _ _ lk) rfl S.co S.gen rfl (PySem.W.codeRec_of KX hcd) (hb _ _ _ _ ?_)
  refine wpAny_newFunctionEnv_cells S.kind kinds fun env he s1 x => ?_
  subst he
  refine ⟨lim.keeps x.toInCall.keep, codeAny_func ?_⟩
  obtain ⟨t, ht, hq⟩ := hbody cdv A outer s H vs Q E (gd_deeper hg _) (hr.deeper _) hsp
  have I := inv_start (CX := CX) (E := E) (cd := cdv) (f := f) (qual := qual) S hr.hd e0 (len _ _ _ _ hsp) r x
  refine wpAny_mono (ht.run [] s1 (start N vs) H _ I hq) (fun fl s' hs => ?_) fun e s' hs => hs
  cases fl with
  | ret u =>
    obtain ⟨v, σ', H', J, rv, q⟩ := hs
    exact ⟨v, H', J.os, J.bare, J.base, J.hok, rv, q⟩
  | next =>
    obtain ⟨σ', H', J, q⟩ := hs
    exact ⟨V.non, H', J.os, J.bare, J.base, J.hok, rfl, q⟩
  | brk => obtain ⟨_, _, _, q⟩ := hs; exact q.elim
  | cont => obtain ⟨_, _, _, q⟩ := hs; exact q.elim
end
/-! ### how values bind -/
def Bw (K : PySem.W.Frag) (fd : FuncData) (ps : List Str) (n : Nat) (ks : List Str) (gV : List V → List V → List V) : Prop :=
  ∀ (s : Shared) (us ws : List Value), K.In s.heap → us.length = n → ws.length = ks.length →
    ∃ zs, BindsTo s fd ⟨us, ks.zip ws⟩ (ps.zip zs) ∧ ∀ vs ys, Vals vs us → Vals ys ws → Vals (gV vs ys) zs
abbrev gPos : List V → List V → List V := fun vs _ => vs
section
variable {K : PySem.W.Frag} {x qual : Str} {params : Arguments} {body : List Stmt} {scope : Scope} {kws : List (Str × V)} {f : Addr} {fd : FuncData} {ps : List Str}
/-- every parameter by its place -/
theorem bw_pos (F : FunD K x qual params body scope [] kws f fd) (n : Nat) (hn : n = ps.length)
    (h : ∀ (kV doc pm : Value) (an : Option Addr) (cdv ct : Value) (us : List Value), us.length = ps.length →
      bindArgs (PySem.W.fnOf x qual params body scope .none kV doc pm an cdv ct) ⟨us, []⟩ = pure (ps.zip us)) : Bw K fd ps n [] gPos := by
  intro s us ws X l1 l2
  have e : ws = [] := List.length_eq_zero_iff.mp l2
  subst e
  exact ⟨us, F.bindsA h s us (l1.trans hn), fun vs ys r _ => r⟩
/-- by names too, no default is looked up -/
theorem bw_kw (F : FunD K x qual params body scope [] kws f fd) (n : Nat) (ks : List Str) (g : {α : Type} → List α → List α → List α)
    (h : ∀ (kV doc pm : Value) (an : Option Addr) (cdv ct : Value) (us ws : List Value), us.length = n → ws.length = ks.length →
      bindArgs (PySem.W.fnOf x qual params body scope .none kV doc pm an cdv ct) ⟨us, ks.zip ws⟩ = pure (ps.zip (g us ws)))
    (hrel : ∀ {vs ys : List V} {us ws : List Value}, us.length = n → ws.length = ks.length → Vals vs us → Vals ys ws → Vals (g vs ys) (g us ws)) : Bw K fd ps n ks g := by
  intro s us ws X l1 l2
  obtain ⟨oc, od, dV, kV, doc, pm, an, cdv, ct, osl, rfl, lk, hcd, hD, hK⟩ := F.ex
  rcases hD with ⟨_, rfl⟩ | ⟨e, _⟩
  · exact ⟨g us ws, .of_eq (h kV doc pm an cdv ct us ws l1 l2), fun vs ys r1 r2 => hrel l1 l2 r1 r2⟩
  · exact absurd rfl e
theorem bw_kbn {n : Nat} {ks : List Str} {g : List Value → List Value → List Value} {gV : List V → List V → List V} (h : KBn K fd ps n ks g gV) : Bw K fd ps n ks gV :=
  fun s us ws X l1 l2 => ⟨g us ws, h.to s us ws X l1 l2, fun _ _ r1 r2 => h.rel r1 r2⟩
/-- by place, one keyword-only parameter left to its default -/
theorem bw_d1 {y : Str} {v : V} (F : FunD K x qual params body scope [] [(y, v)] f fd) (n : Nat) (hn : n + 1 = ps.length)
    (h : ∀ (D : Addr) (doc pm : Value) (an : Option Addr) (cdv ct : Value) (us : List Value) (z : Value), us.length = n →
      KwChain D [(y, z)] (bindArgs (PySem.W.fnOf x qual params body scope .none (.ref D) doc pm an cdv ct) ⟨us, []⟩) (ps.zip (us ++ [z]))) :
    Bw K fd ps n [] (fun vs _ => vs ++ [v]) := by
  obtain ⟨ds, r, hb⟩ := FunD.binds0 (ps := ps) F n (by simp) (by simpa using hn) fun D doc pm an cdv ct us ks l1 l2 => by
    match ks, l2 with
    | [z], _ => exact h D doc pm an cdv ct us z l1
  intro s us ws X l1 l2
  have e : ws = [] := List.length_eq_zero_iff.mp l2
  subst e
  refine ⟨us ++ ds, hb s us X ?_, fun vs ys q _ => q.append r⟩
  have e := r.length
  rw [List.length_append, l1, ← e]
  exact hn
end
/-! ### a def by its datum -/
/-- the def d keeps sp -/
def Fo (g : Bool) (P : Program) (w : World) (K : PySem.W.Frag) (mg : Str → Option Value) (base : Heap)
    (CX : CXT) (k : Nat) (d : He.DefD) (ps : List Str) (sp : Sp) : Prop :=
  ∃ fd, Fq g P w K mg base CX k (He.fAd K d.at_) fd ps sp ∧
    FunD K d.name d.qual d.params d.body d.scope (d.dvs K) (d.kws K) (He.fAd K d.at_) fd
section
variable {X : Cx} {g : Bool} {CX : CXT} {k n : Nat} {d : He.DefD} {ps ks : List Str} {sp : Sp} {E : XK} {x : Str} {p pos : Pos} {e : Expr}
  {es : List Expr} {kws : List Keyword} {t tk : TA} {gV : List V → List V → List V}
theorem run_fq {f : Addr} {fd : FuncData} {pins : List (Addr × Obj)} {σ : L2.St} {H : Hp} {s : Shared} {Q : VK} {args : Args} {us : List Value} {vs : List V}
    (F : Fq g X.prog X.w X.K X.mg X.base CX k f fd ps sp) (hg : Gd g X.A) (hr : Room k X.A) (hb : BindsTo s fd args (ps.zip us))
    (hx : Passes CX X E) (I : Inv X pins σ H s) (r : Vals vs us) (h : sp vs H Q E) :
    codeAny (model X.prog X.w) X.A (.call (.ref f) args) (fun r s' => match r with
      | .ok (.ret v) => EP X pins σ Q v s' | .ok _ => False | .error e => X.xe e s') s := by
  refine codeAny_mono (F.go X.A X.stack s H args us vs Q E hg hr I.env0 hb r h) fun r s' hq => ?_
  cases r with
  | error e => exact hx pins σ H s e s' I hq
  | ok fl =>
    cases fl with
    | ret u => exact I.after hq
    | _ => exact hq.elim
/-- how a call's reading goes: n values by place, m by name -/
def tO (n m : Nat) (sp : Sp) (gV : List V → List V → List V) (E : XK) (t tk : TA) : TE := fun σ H Q => t σ H fun vs H1 => tk σ H1 fun zs H2 =>
  vs.length = n ∧ zs.length = m ∧ sp (gV vs zs) H2 Q E
/-- x(e, ..) -/
theorem pe_o (F : Fo g X.prog X.w X.K X.mg X.base CX k d ps sp) (hm : X.mg x = some (.ref (He.fAd X.K d.at_)))
    (hb : ∀ fd, FunD X.K d.name d.qual d.params d.body d.scope (d.dvs X.K) (d.kws X.K) (He.fAd X.K d.at_) fd → Bw X.K fd ps n [] gV)
    (hg : Gd g X.A) (hr : Room k X.A) (gl : Gl X x) (hx : Passes CX X E)
    (ha : PA X (e :: es) t) (hdb : (x == ("__debug__" : Str)) = false := by decide)
    (he : starEach (e :: es) X.env = (false, eval e X.env) :: starEach es X.env := by rfl)
    (hpl : (backTo pos (starEach es X.env)).any (·.1) = false := by rfl) :
    PE X (.Call (.Name x p) (e :: es) [] pos) (tO n 0 sp gV E t tNil) := by
  obtain ⟨fd, F1, FD⟩ := F
  refine ⟨fun pins s σ H Q I h => wpAny_Call_Name_kw (ld_glob I gl hm ?_ hdb)⟩
  refine PySem.W.callWith_K (h₀ := X.base) I.ok.mod.kin FD.kp (thn (ha.run pos pins s σ H _ I h) fun us s1 q => ?_) he hpl
  obtain ⟨vs, H1, I1, r, l1, l2, q⟩ := q
  obtain ⟨zs, hB, hV⟩ := hb fd FD s1 us [] I1.kIn (r.length.symm.trans l1) rfl
  exact ⟨I1.kIn, wpAny_call (run_fq F1 hg hr hB hx I1 (hV vs [] r .nil) q)⟩
theorem pe_o0 (F : Fo g X.prog X.w X.K X.mg X.base CX k d ps sp) (hm : X.mg x = some (.ref (He.fAd X.K d.at_)))
    (hb : ∀ fd, FunD X.K d.name d.qual d.params d.body d.scope (d.dvs X.K) (d.kws X.K) (He.fAd X.K d.at_) fd → Bw X.K fd ps 0 [] gV)
    (hg : Gd g X.A) (hr : Room k X.A) (gl : Gl X x) (hx : Passes CX X E)
    (hdb : (x == ("__debug__" : Str)) = false := by decide) : PE X (.Call (.Name x p) [] [] pos) (tO 0 0 sp gV E tNil tNil) := by
  obtain ⟨fd, F1, FD⟩ := F
  refine ⟨fun pins s σ H Q I h => wpAny_Call_Name_kw (ld_glob I gl hm ?_ hdb)⟩
  obtain ⟨l1, l2, q⟩ := h
  obtain ⟨zs, hB, hV⟩ := hb fd FD s [] [] I.kIn rfl rfl
  exact PySem.W.callWith_K0 I.kIn FD.kp (wpAny_call (run_fq F1 hg hr hB hx I (hV [] [] .nil .nil) q))
/-- x(e, .., k = v, ..) -/
theorem pe_ok (F : Fo g X.prog X.w X.K X.mg X.base CX k d ps sp) (hm : X.mg x = some (.ref (He.fAd X.K d.at_)))
    (hb : ∀ fd, FunD X.K d.name d.qual d.params d.body d.scope (d.dvs X.K) (d.kws X.K) (He.fAd X.K d.at_) fd → Bw X.K fd ps n ks gV)
    (hg : Gd g X.A) (hr : Room k X.A) (gl : Gl X x) (hx : Passes CX X E)
    (ha : PA X (e :: es) t) (hkw : PK X kws tk) (hall : (backToKw pos (keywordEach kws X.env)).all (·.1.isSome) = true := by rfl)
    (hks : (backToKw pos (keywordEach kws X.env)).filterMap (·.1) = ks := by rfl)
    (hdb : (x == ("__debug__" : Str)) = false := by decide) (he : starEach (e :: es) X.env = (false, eval e X.env) :: starEach es X.env := by rfl)
    (hpl : ((backTo pos (starEach (e :: es) X.env)).any (·.1) || (backToKw pos (keywordEach kws X.env)).any (·.1.isNone)) = false := by rfl) :
    PE X (.Call (.Name x p) (e :: es) kws pos) (tO n ks.length sp gV E t tk) := by
  obtain ⟨fd, F1, FD⟩ := F
  refine ⟨fun pins s σ H Q I h => wpAny_Call_Name_kw (ld_glob I gl hm ?_ hdb)⟩
  refine PySem.W.callWith_KW (h₀ := X.base) I.ok.mod.kin FD.kp hall (thn (ha.run pos pins s σ H _ I h) fun us s1 q => ?_) hpl he
  obtain ⟨vs, H1, I1, r, q⟩ := q
  refine thn (hkw.run pos pins s1 σ H1 _ I1 q) fun ws s2 q2 => ?_
  obtain ⟨ys, H2, I2, rz, l1, l2, q3⟩ := q2
  rw [hks]
  obtain ⟨zs, hB, hV⟩ := hb fd FD s2 us ws I2.kIn (r.length.symm.trans l1) (rz.length.symm.trans l2)
  exact ⟨I2.kIn, wpAny_call (run_fq F1 hg hr hB hx I2 (hV vs ys r rz) q3)⟩
/-- x(k = v, ..) -/
theorem pe_ok0 (F : Fo g X.prog X.w X.K X.mg X.base CX k d ps sp) (hm : X.mg x = some (.ref (He.fAd X.K d.at_)))
    (hb : ∀ fd, FunD X.K d.name d.qual d.params d.body d.scope (d.dvs X.K) (d.kws X.K) (He.fAd X.K d.at_) fd → Bw X.K fd ps 0 ks gV)
    (hg : Gd g X.A) (hr : Room k X.A) (gl : Gl X x) (hx : Passes CX X E)
    (hkw : PK X kws tk) (hall : (backToKw pos (keywordEach kws X.env)).all (·.1.isSome) = true := by rfl)
    (hks : (backToKw pos (keywordEach kws X.env)).filterMap (·.1) = ks := by rfl)
    (hdb : (x == ("__debug__" : Str)) = false := by decide)
    (hpl : ((backTo pos (starEach [] X.env)).any (·.1) || (backToKw pos (keywordEach kws X.env)).any (·.1.isNone)) = false := by rfl) :
    PE X (.Call (.Name x p) [] kws pos) (tO 0 ks.length sp gV E tNil tk) := by
  obtain ⟨fd, F1, FD⟩ := F
  refine ⟨fun pins s σ H Q I h => wpAny_Call_Name_kw (ld_glob I gl hm ?_ hdb)⟩
  refine PySem.W.callWith_KW0 (h₀ := X.base) I.ok.mod.kin FD.kp hall (thn (hkw.run pos pins s σ H _ I h) fun ws s2 q2 => ?_) hpl
  obtain ⟨ys, H2, I2, rz, l1, l2, q3⟩ := q2
  rw [hks]
  obtain ⟨zs, hB, hV⟩ := hb fd FD s2 [] ws I2.kIn rfl (rz.length.symm.trans l2)
  exact ⟨I2.kIn, wpAny_call (run_fq F1 hg hr hB hx I2 (hV [] ys .nil rz) q3)⟩
end
/-! ### the head's facts -/
abbrev AlX : Type := He.AlD × Bool
def obsXG (n : Nat) (fa : List He.Fa) (fn : List He.DefD) (ex : PySem.W.Frag → Bool) (g : Addr → Option Obj) : AlX :=
  (fun K => (He.obsD fa fn K, ex K)) (He.frG g (He.asD g n ++ [cStatics]))
/-- what is told of the written part -/
structure Says (fa : List He.Fa) (fn : List He.DefD) (ex : PySem.W.Frag → Bool) (K : PySem.W.Frag) : Prop where
  d : He.SaysD fa fn K
  more : ex K = true
def hookX (n : Nat) (fa : List He.Fa) (fn : List He.DefD) (ex : PySem.W.Frag → Bool) : PySem.W.Hook where
  α := AlX
  obs := fun s => obsXG n fa fn ex s.heap.get?
  val := fun _ => (He.valD fn, true)
  says := fun _ h => ∃ K : PySem.W.Frag, K.In h ∧ Says fa fn ex K
  of := fun _ _ e => ⟨_, He.frG_in, congrArg (fun z : AlX => z.1) e, congrArg (fun z : AlX => z.2) e⟩
  keeps := fun _ _ _ ⟨K, hK, c⟩ k => ⟨K, PySem.W.Frag.In.keeps hK k, c⟩
theorem obsXG_eq {n : Nat} {fa : List He.Fa} {fn : List He.DefD} {ex : PySem.W.Frag → Bool} {g : Addr → Option Obj} {s : Shared} (h : ∀ a, g a = s.heap.get? a) :
    obsXG n fa fn ex g = (hookX n fa fn ex).obs s := by
  have e : g = s.heap.get? := funext h
  rw [e]
  rfl
/-- the text's facts, with the module's names -/
structure Tx (fa : List He.Fa) (fn : List He.DefD) (ex : PySem.W.Frag → Bool) (K : PySem.W.Frag) (mg : Str → Option Value) : Prop where
  hp : ∃ h : Heap, K.In h ∧ h.Ns mainGlobals mg
  c : Says fa fn ex K
section
variable {fa : List He.Fa} {fn : List He.DefD} {ex : PySem.W.Frag → Bool} {K : PySem.W.Frag} {mg : Str → Option Value}
theorem Tx.fact (T : Tx fa fn ex K mg) (i : Nat) {f : He.Fa} (h : fa[i]? = some f := by rfl) : f.ok K = true := T.c.d.fact i h
theorem Tx.dfn (T : Tx fa fn ex K mg) (i : Nat) {d : He.DefD} (h : fn[i]? = some d := by rfl) :
    ∃ fd, FunD K d.name d.qual d.params d.body d.scope (d.dvs K) (d.kws K) (He.fAd K d.at_) fd := T.c.d.def_ i h
theorem Tx.glo (T : Tx fa fn ex K mg) (i : Nat) {x : Str} (h : fa[i]? = some (.glo x) := by rfl) : mg x = some (.ref (He.ga K x)) := by
  obtain ⟨hp, X, G⟩ := T.hp
  exact He.glo_ok X G (T.fact i h)
theorem Tx.free (T : Tx fa fn ex K mg) (i : Nat) {x : Str} (h : fa[i]? = some (.free x) := by rfl) : mg x = none := by
  obtain ⟨hp, X, G⟩ := T.hp
  exact He.free_ok X G (T.fact i h)
theorem Tx.str (T : Tx fa fn ex K mg) (i : Nat) {x z : Str} (h : fa[i]? = some (.str x z) := by rfl) : ∃ t, mg x = some (.str z t) := by
  obtain ⟨hp, X, G⟩ := T.hp
  exact He.str_ok X G (T.fact i h)
theorem Tx.int (T : Tx fa fn ex K mg) (i : Nat) {x : Str} {z : Int} (h : fa[i]? = some (.int x z) := by rfl) : ∃ t, mg x = some (.int z t) := by
  obtain ⟨hp, X, G⟩ := T.hp
  exact He.int_ok X G (T.fact i h)
end
section
variable {X : Cx} {x : Str} {pos : Pos}
theorem pe_gs {z : Str} (hg : Gl X x) (h : ∃ t, X.mg x = some (.str z t)) (hd : (x == ("__debug__" : Str)) = false := by decide) : PE X (.Name x pos) (tC (.str z)) := by
  obtain ⟨t, h⟩ := h
  exact pe_glob hg h ⟨t, rfl⟩ hd
theorem pe_gi {z : Int} (hg : Gl X x) (h : ∃ t, X.mg x = some (.int z t)) (hd : (x == ("__debug__" : Str)) = false := by decide) : PE X (.Name x pos) (tC (.int z)) := by
  obtain ⟨t, h⟩ := h
  exact pe_glob hg h ⟨t, rfl⟩ hd
theorem pe_gr {a : Addr} (hg : Gl X x) (h : X.mg x = some (.ref a)) (hd : (x == ("__debug__" : Str)) = false := by decide) : PE X (.Name x pos) (tC (.ref a)) := pe_glob hg h rfl hd
end
/-! ### C() by a positional promise of its __init__ -/
theorem pe_mk0 {X : Cx} {CX : CXT} {k : Nat} {f C : Addr} {sp : Sp} {E : XK} {x : Str} {p pos : Pos} (M : Mk X.K C f) (F : FnR X.prog X.w X.K X.mg X.base CX k f sp)
    (hr : Room (k + 1) X.A) (hg : Gl X x) (hm : X.mg x = some (.ref C)) (hx : Passes CX X E) (hdb : (x == ("__debug__" : Str)) = false := by decide) :
    PE X (.Call (.Name x p) [] [] pos) (StX.tMakeR C sp E tNil) := by
  refine ⟨fun pins s σ H Q I h => wpAny_Call_Name_kw (ld_glob I hg hm ?_ hdb)⟩
  exact PySem.W.callWith_K0 I.kIn M.kp (StX.run_makeR (us := []) M F hr hx I .nil h)
/-- def m(self, *rest) -/
theorem fn_star1 {CX : CXT} {P : Program} {w : World} {K : PySem.W.Frag} {mg : Str → Option Value} {base : Heap} {k : Nat} {f : Addr} {fd : FuncData} {N : List Str} {sp : Sp} {x qual p1 pv : Str} {params : Arguments} {body : List Stmt} {scope : Scope} {kws : List (Str × V)}
    (F : FunD K x qual params body scope [] kws f fd) (S : FnScope N [p1, pv] scope) (hCX : StX.CXUp CX)
    (h0 : ∀ (kV doc pm : Value) (an : Option Addr) (cdv ct : Value) (a : Value), bindArgs (PySem.W.fnOf x qual params body scope .none kV doc pm an cdv ct) ⟨[a], []⟩ = (newTuple [] >>= fun t => pure [(p1, a), (pv, t)]))
    (h1 : ∀ (kV doc pm : Value) (an : Option Addr) (cdv ct : Value) (a r : Value) (rs : List Value), bindArgs (PySem.W.fnOf x qual params body scope .none kV doc pm an cdv ct) ⟨a :: r :: rs, []⟩ = (newTuple (r :: rs) >>= fun t => pure [(p1, a), (pv, t)]))
    (hbody : ∀ (cdv : Value) (A : Around) (outer : List Env) (s : Shared) (H : Hp) (vs : List V) (Q : VK) (E : XK), Room k (A.deeper (envOfC qual scope s.heap.objs.size f cdv)) → sp vs H Q E →
      ∃ t, PSs (cxOf CX P w K mg base N qual scope f cdv A outer s H E) body t ∧ t { nx := fun _ H' => Q .non H', rt := Q } (start N vs) H) :
    FnR P w K mg base CX (k + 1) f (fun vs H Q E => ∃ (a : V) (rest : List V), vs = a :: rest ∧ rest.length ≤ sizeLine ∧ ∀ p, H p = none → sp [a, .ref p] (upd H p (.tup rest)) Q E) := by
  obtain ⟨oc, od, dV, kV, doc, pm, an, cdv, ct, osl, rfl, lk, hcd, hD, _⟩ := F.ex
  rcases hD with ⟨_, rfl⟩ | ⟨e, _⟩
  · refine FnR.imp (StX.fn_star (ps := [p1]) (pv := pv) (sp := sp) lk hcd S hCX (StX.bind_star1 (B := fun us => bindArgs (PySem.W.fnOf x qual params body scope .none kV doc pm an cdv ct) ⟨us, []⟩) (h0 kV doc pm an cdv ct) (h1 kV doc pm an cdv ct))
      (fun A outer s H vs Q E hr h => hbody cdv A outer s H vs Q E hr h)) fun vs H Q E h => ?_
    obtain ⟨a, rest, rfl, hz, q⟩ := h
    exact ⟨[a], rest, rfl, rfl, hz, q⟩
  · exact absurd rfl e
end Ab

set_option Elab.async false
set_option linter.all false
set_option maxRecDepth 100000
set_option maxHeartbeats 4000000
/-! AbB: frames, the drawn numbers, loops. -/
namespace Ab
open PySem PySem.Spec PyProof.Rows L2
/-- all that stands but r's object stays -/
def Fx (r : Addr) (H H' : Hp) : Prop := ∀ b o, b ≠ r → H b = some o → H' b = some o
/-- all that stands stays -/
abbrev Ex (H H' : Hp) : Prop := Same H H'
theorem Fx.refl {r : Addr} {H : Hp} : Fx r H H := fun _ _ _ e => e
theorem Fx.trans {r : Addr} {H H1 H2 : Hp} (a : Fx r H H1) (b : Fx r H1 H2) : Fx r H H2 := fun x o n e => b x o n (a x o n e)
theorem Fx.ex {r : Addr} {H H1 H2 : Hp} (a : Fx r H H1) (b : Ex H1 H2) : Fx r H H2 := fun x o n e => b x o (a x o n e)
theorem Ex.fx {r : Addr} {H H' : Hp} (a : Ex H H') : Fx r H H' := fun x o _ e => a x o e
theorem Ex.new {H : Hp} {p : Addr} {o : HO} (h : H p = none) : Ex H (upd H p o) := fun a u e => by
  rw [upd_ne (ne_of_none e h)]
  exact e
theorem Ex.keep {H H' : Hp} {p : Addr} {o : HO} (e : Ex H H') (h : H p = none) : Ex H (upd H' p o) := fun a u q => by
  rw [upd_ne (ne_of_none q h)]
  exact e a u q
theorem Fx.keep {r : Addr} {H H' : Hp} {p : Addr} {o : HO} (e : Fx r H H') (h : H p = none) : Fx r H (upd H' p o) := fun a u n q => by
  rw [upd_ne (ne_of_none q h)]
  exact e a u n q
theorem Fx.own {r : Addr} {H H' : Hp} {o : HO} (e : Fx r H H') : Fx r H (upd H' r o) := fun a u n q => by
  rw [upd_ne n]
  exact e a u n q
theorem Ex.none {H H' : Hp} (e : Ex H H') {p : Addr} (h : H' p = none) : H p = none := e.free h
/-- the drawn numbers' list stands at r -/
def Rng (r : Addr) (H : Hp) : Prop := ∃ a b : Int, H r = some (.lst [.int a, .int b]) ∧ 0 ≤ b ∧ b < 2147483648
theorem Rng.ex {r : Addr} {H H' : Hp} (h : Rng r H) (e : Ex H H') : Rng r H' := by
  obtain ⟨a, b, h1, h2⟩ := h
  exact ⟨a, b, e _ _ h1, h2⟩
theorem Rng.ne {r p : Addr} {H : Hp} (h : Rng r H) (n : H p = none) : p ≠ r := by
  obtain ⟨a, b, h1, _⟩ := h
  exact (ne_of_none h1 n).symm
/-- something was drawn: r's list is another one, all else stays -/
structure Dr (r : Addr) (H H' : Hp) : Prop where
  fx : Fx r H H'
  rg : Rng r H'
theorem Dr.refl {r : Addr} {H : Hp} (h : Rng r H) : Dr r H H := ⟨Fx.refl, h⟩
theorem Dr.trans {r : Addr} {H H1 H2 : Hp} (a : Dr r H H1) (b : Dr r H1 H2) : Dr r H H2 := ⟨a.fx.trans b.fx, b.rg⟩
theorem Dr.ex {r : Addr} {H H1 H2 : Hp} (a : Dr r H H1) (b : Ex H1 H2) : Dr r H H2 := ⟨a.fx.ex b, a.rg.ex b⟩
theorem Dr.new {r : Addr} {H : Hp} {p : Addr} {o : HO} (h : Rng r H) (n : H p = none) : Dr r H (upd H p o) := (Dr.refl h).ex (Ex.new n)
theorem Dr.get {r : Addr} {H H' : Hp} {p : Addr} {o : HO} (a : Dr r H H') (n : p ≠ r) (h : H p = some o) : H' p = some o := a.fx p o n h
theorem Dr.keep {r : Addr} {H H' : Hp} {p : Addr} {o : HO} (a : Dr r H H') (hr : Rng r H) (n : H p = none) : Dr r H (upd H' p o) := by
  obtain ⟨x, y, h1, h2⟩ := a.rg
  exact ⟨a.fx.keep n, x, y, by rw [upd_ne (hr.ne n).symm]; exact h1, h2⟩
theorem Dr.seqL {K : PySem.W.Frag} {r : Addr} {H H' : Hp} {p : Addr} {xs : List V} (a : Dr r H H') (n : p ≠ r) (h : SqL K H p xs) : SqL K H' p xs := by
  rcases h with (h | ⟨o, h⟩) | h
  · exact .inl (.inl (a.get n h))
  · exact .inl (.inr ⟨o, a.get n h⟩)
  · exact .inr h
theorem ex_seqL {K : PySem.W.Frag} {H H' : Hp} {p : Addr} {xs : List V} (a : Ex H H') (h : SqL K H p xs) : SqL K H' p xs := by
  rcases h with (h | ⟨o, h⟩) | h
  · exact .inl (.inl (a _ _ h))
  · exact .inl (.inr ⟨o, a _ _ h⟩)
  · exact .inr h
theorem ex_seqT {K : PySem.W.Frag} {H H' : Hp} {p : Addr} {xs : List V} (a : Ex H H') (h : SqT K H p xs) : SqT K H' p xs := by
  rcases h with (h | ⟨o, h⟩) | h
  · exact .inl (.inl (a _ _ h))
  · exact .inl (.inr ⟨o, a _ _ h⟩)
  · exact .inr h
theorem dr_seqT {K : PySem.W.Frag} {r : Addr} {H H' : Hp} {p : Addr} {xs : List V} (a : Dr r H H') (n : p ≠ r) (h : SqT K H p xs) : SqT K H' p xs := by
  rcases h with (h | ⟨o, h⟩) | h
  · exact .inl (.inl (a.get n h))
  · exact .inl (.inr ⟨o, a.get n h⟩)
  · exact .inr h
/-! ### what the drawing defs promise -/
def spRng (K : PySem.W.Frag) : Sp := fun vs H Q _ => ∃ (a : Addr) (ns : List Int) (k : Int), vs = [.ref a, .int k] ∧ SqL K H a (ns.map V.int) ∧ 0 ≤ k ∧ k ≤ 1000 ∧
  ∀ (p : Addr) (H' : Hp), H p = none → Ex H H' → Rng p H' → Q (.ref p) H'
def spDraw : Sp := fun vs H Q _ => ∃ (r : Addr) (m : Int), vs = [.ref r, .int m] ∧ Rng r H ∧ 0 < m ∧ m ≤ 100000 ∧
  ∀ (k : Int) (H' : Hp), 0 ≤ k → k < m → Dr r H H' → Q (.int k) H'
def spChoice (K : PySem.W.Frag) : Sp := fun vs H Q _ => ∃ (r a : Addr) (xs : List V), vs = [.ref r, .ref a] ∧ Rng r H ∧ a ≠ r ∧ SqL K H a xs ∧ xs ≠ [] ∧ xs.length ≤ 100000 ∧
  ∀ (v : V) (H' : Hp), v ∈ xs → Dr r H H' → Q v H'
/-- of a text -/
def spChoiceS : Sp := fun vs H Q _ => ∃ (r : Addr) (z : Str), vs = [.ref r, .str z] ∧ Rng r H ∧ z.cps.toList ≠ [] ∧ z.cps.toList.length ≤ 100000 ∧
  ∀ (c : Nat) (H' : Hp), c ∈ z.cps.toList → Dr r H H' → Q (.str ⟨#[c]⟩) H'
/-! ### texts times numbers -/
theorem str_fold (k : Nat) (a acc : Array Nat) : ((List.replicate k a).foldl (· ++ ·) acc).toList = acc.toList ++ (List.replicate k a.toList).flatten := by
  induction k generalizing acc with
  | zero => simp
  | succ k ih => rw [List.replicate_succ, List.foldl_cons, ih]; simp [List.replicate_succ]
/-- a text so many times -/
def repS (z : Str) (n : Nat) : Str := ⟨(List.replicate n z.cps.toList).flatten.toArray⟩
theorem repS_len (z : Str) (n : Nat) : (repS z n).cps.toList.length = n * z.cps.toList.length := by
  unfold repS
  simp
def rRepS : R2 := fun x y H Q => ∃ (z : Str) (n : Int), x = .str z ∧ y = .int n ∧ 0 ≤ n ∧ n ≤ 100000 ∧ z.cps.toList.length * n.toNat ≤ 1000000 ∧ Q (.str (repS z n.toNat)) H
theorem op_repS {X : Cx} : OpR X (binaryOp .Mult) rRepS := by
  intro pins s σ H x y v u Q I rx ry h
  obtain ⟨z, n, rfl, rfl, h0, h1, h2, q⟩ := h
  obtain ⟨t, rfl⟩ := rx
  obtain ⟨t', rfl⟩ := ry
  have lz : z.length = z.cps.toList.length := by show z.cps.size = _; simp
  have h3 : z.length * n.toNat ≤ 1000000 := by rw [lz]; exact h2
  refine PySem.P.mul_str (by simp; omega) (fun h4 _ => ?_) (fun _ _ => ?_) ?_
  · intro hc
    have e : (z.length : Int) * n ≤ 1000000 := by
      have : ((z.length * n.toNat : Nat) : Int) ≤ 1000000 := by omega
      rw [Int.natCast_mul, Int.toNat_of_nonneg h0] at this
      exact this
    have hn : 0 < n := by omega
    have := (Int.lt_iff_add_one_le).mp hc
    have h5 : (2 ^ 63 - 1) / n + 1 ≤ (z.length : Int) := this
    have h6 : 2 ^ 63 - 1 < n * ((2 ^ 63 - 1) / n + 1) := by
      have := Int.lt_mul_ediv_self_add (x := (2 ^ 63 - 1 : Int)) hn
      rw [Int.mul_add, Int.mul_one]
      exact this
    have h7 : n * ((2 ^ 63 - 1) / n + 1) ≤ n * (z.length : Int) := Int.mul_le_mul_of_nonneg_left h5 h0
    rw [Int.mul_comm] at e
    have : (2 ^ 63 - 1 : Int) < 1000000 := by omega
    exact absurd this (by decide)
  · unfold Builtin.Str.tooLong
    have : z.length * n.toNat ≤ sizeLine := Nat.le_trans h3 (by decide)
    first | simp; omega | (rw [decide_eq_false (by omega)]) | omega
  · by_cases c1 : n < 1
    · rw [if_pos c1]
      have : n.toNat = 0 := by omega
      refine ⟨by decide, ⟨.str (repS z n.toNat), H, I.tok _, ?_, q⟩⟩
      exact ⟨_, by rw [this]; rfl⟩
    · rw [if_neg c1]
      by_cases c2 : (n == 1 || z.length == 0) = true
      · rw [if_pos c2]
        refine ⟨.str (repS z n.toNat), H, I, ?_, q⟩
        have e : z = repS z n.toNat := by
          have : z.cps = (repS z n.toNat).cps := by
            apply Array.ext'
            simp only [Bool.or_eq_true, beq_iff_eq] at c2
            rcases c2 with c2 | c2
            · subst c2; simp [repS]
            · rw [lz] at c2
              have c3 := List.length_eq_zero_iff.mp c2
              simp [repS, c3]
          exact congrArg PySem.Str.mk this
        exact ⟨t, by rw [← e]⟩
      · rw [if_neg c2]
        have ez : (⟨(List.replicate n.toNat z.cps).foldl (· ++ ·) #[]⟩ : Str) = repS z n.toNat := by
          unfold repS
          congr 1
          apply Array.ext'
          rw [str_fold]; simp
        refine ⟨?_, ⟨.str (repS z n.toNat), H, I.tok _, ⟨s.toks, by rw [ez]⟩, q⟩⟩
        · show _ ≤ _
          have e : ((List.replicate n.toNat z.cps).foldl (· ++ ·) #[]).toList.length = n.toNat * z.cps.toList.length := by rw [str_fold]; simp
          have : ((List.replicate n.toNat z.cps).foldl (· ++ ·) #[]).size ≤ 1000000 := by
            rw [← Array.length_toList, e, Nat.mul_comm]; exact h2
          exact Nat.le_trans this (by decide)
end Ab
namespace Ab
open PySem PySem.Spec PyProof.Rows L2 TL
theorem cx_K {CX : CXT} {P : Program} {w : World} {K : PySem.W.Frag} {mg : Str → Option Value} {base : Heap} {N : List Str} {qual : Str} {scope : Scope} {f : Addr} {cd : Value} {A : Around} {outer : List Env} {s : Shared} {H : Hp} {E : XK} :
    (cxOf CX P w K mg base N qual scope f cd A outer s H E).K = K := rfl
theorem cx_Kn {CX : CXT} {P : Program} {w : World} {K : PySem.W.Frag} {mg : Str → Option Value} {base : Heap} {N : List Str} {qual : Str} {scope : Scope} {f : Addr} {cd : Value} {A : Around} {outer : List Env} {s : Shared} {H : Hp} {E : XK} :
    (Cx.nox (cxOf CX P w K mg base N qual scope f cd A outer s H E)).K = K := rfl
theorem scal_ii {i j : Int} : scal (.int i) (.int j) = true := rfl
theorem scal_ss {i j : Str} : scal (.str i) (.str j) = true := rfl
theorem scal_bb {i j : Bool} : scal (.bl i) (.bl j) = true := rfl
theorem scal_nn : scal .non .non = true := rfl
theorem scal_is {i : Int} {j : Str} : scal (.int i) (.str j) = true := rfl
theorem scal_si {i : Str} {j : Int} : scal (.str i) (.int j) = true := rfl
theorem start_eq (N : List Str) (vs : List V) : L2.start N vs = vs.map some ++ List.replicate (N.length - vs.length) none := rfl
/-! ### texts as lists of codes -/
abbrev cs (z : Str) : List Nat := z.cps.toList
theorem repS_mem {z : Str} {n c : Nat} (h : c ∈ cs (repS z n)) : c ∈ cs z := by
  have h' : c ∈ (List.replicate n z.cps.toList).flatten := by simpa [cs, repS] using h
  obtain ⟨l, hl, hc⟩ := List.mem_flatten.mp h'
  rw [(List.mem_replicate.mp hl).2] at hc
  exact hc
theorem cs_len (z : Str) : z.length = (cs z).length := by show z.cps.size = _; simp
theorem cs_app (a b : Str) : cs (a ++ b) = cs a ++ cs b := by
  show (a.cps ++ b.cps).toList = _
  simp
theorem cs_app_len (a b : Str) : (cs (a ++ b)).length = (cs a).length + (cs b).length := by rw [cs_app, List.length_append]
theorem cs_inj {a b : Str} (h : cs a = cs b) : a = b := by
  cases a; cases b
  have : (⟨_⟩ : Str) = ⟨_⟩ := congrArg PySem.Str.mk (Array.ext' h)
  exact this
theorem joinL_nil : ∀ ps : List (List Nat), joinL [] ps = ps.flatten
  | [] => rfl
  | [p] => by simp [joinL]
  | p :: q :: r => by
    show p ++ ([] ++ joinL [] (q :: r)) = _
    rw [joinL_nil (q :: r)]; simp
theorem cs_join0 (ys : List Str) : cs (Txt.join "" ys) = (ys.map cs).flatten := by
  rw [join_eq]
  have e := tl_join "" ys
  have e0 : tl ("" : Str) = [] := by decide +kernel
  rw [e0, joinL_nil] at e
  exact e
theorem strs_of {p : Str → Prop} : ∀ {ys : List V}, (∀ (i : Nat) y, ys[i]? = some y → ∃ z : Str, y = .str z ∧ p z) → ∃ zs : List Str, ys = zs.map V.str ∧ ∀ z ∈ zs, p z
  | [], _ => ⟨[], rfl, fun z h => by cases h⟩
  | y :: ys, h => by
    obtain ⟨z, e, hz⟩ := h 0 y rfl
    obtain ⟨zs, e2, h2⟩ := strs_of (ys := ys) fun i y' q => h (i + 1) y' (by simpa using q)
    refine ⟨z :: zs, by rw [e, e2]; rfl, fun u hu => ?_⟩
    rcases List.mem_cons.mp hu with rfl | hu
    · exact hz
    · exact h2 u hu
/-- pieces of one sign each -/
theorem ones_sum {L : List Nat} : ∀ {zs : List Str}, (∀ z ∈ zs, ∃ c ∈ L, z = ⟨#[c]⟩) → (zs.map (·.length)).sum = zs.length ∧ (zs.map cs).flatten.length = zs.length ∧ ∀ c ∈ (zs.map cs).flatten, c ∈ L
  | [], _ => ⟨rfl, rfl, fun c h => by cases h⟩
  | z :: zs, h => by
    obtain ⟨h1, h2, h3⟩ := ones_sum (zs := zs) fun u hu => h u (List.mem_cons_of_mem _ hu)
    obtain ⟨c, hc, e⟩ := h z (List.mem_cons_self ..)
    subst e
    refine ⟨?_, ?_, fun d hd => ?_⟩
    · rw [List.map_cons, List.sum_cons, h1, List.length_cons]
      show 1 + zs.length = zs.length + 1
      omega
    · rw [List.map_cons, List.flatten_cons, List.length_append, h2, List.length_cons]
      show 1 + zs.length = zs.length + 1
      omega
    · rw [List.map_cons, List.flatten_cons] at hd
      rcases List.mem_append.mp hd with hd | hd
      · have : d = c := by simpa using hd
        rw [this]; exact hc
      · exact h3 d hd
end Ab

set_option Elab.async false
set_option linter.all false
set_option maxRecDepth 100000
set_option maxHeartbeats 4000000
/-! AbC: comprehensions. -/
namespace Ab
open PySem PySem.Spec PyProof.Rows L2
/-- all that stands but what M names stays -/
def Fz (M : Addr → Prop) (H H' : Hp) : Prop := ∀ b o, ¬ M b → H b = some o → H' b = some o
theorem Fz.refl {M : Addr → Prop} {H : Hp} : Fz M H H := fun _ _ _ e => e
theorem Fz.trans {M : Addr → Prop} {H H1 H2 : Hp} (a : Fz M H H1) (b : Fz M H1 H2) : Fz M H H2 := fun x o n e => b x o n (a x o n e)
theorem Fz.keep {M : Addr → Prop} {H H' : Hp} {p : Addr} {o : HO} (e : Fz M H H') (h : H p = none) : Fz M H (upd H' p o) := fun a u n q => by
  rw [upd_ne (ne_of_none q h)]
  exact e a u n q
abbrev Mr (r : Addr) : Addr → Prop := fun b => b = r
abbrev M0 : Addr → Prop := fun _ => False
theorem Dr.fz {r : Addr} {H H' : Hp} (d : Dr r H H') : Fz (Mr r) H H' := fun b o n e => d.fx b o n e
theorem ex_fz {H H' : Hp} (d : Ex H H') : Fz M0 H H' := fun b o _ e => d b o e
theorem fz_ex {H H' : Hp} (d : Fz M0 H H') : Ex H H' := fun b o e => d b o (fun z => z) e
theorem fz_dr {r : Addr} {H H' : Hp} (d : Fz (Mr r) H H') (h : Rng r H') : Dr r H H' := ⟨fun b o n e => d b o n e, h⟩
/-- all that is new since B stays -/
def Kp (B H H' : Hp) : Prop := ∀ b o, B b = none → H b = some o → H' b = some o
theorem Kp.of_ex {B H H' : Hp} (e : Ex H H') : Kp B H H' := fun b o _ q => e b o q
theorem Kp.of_dr {r : Addr} {B H H' : Hp} (hr : B r ≠ none) (d : Dr r H H') : Kp B H H' := fun b o n q => d.fx b o (fun z => hr (z ▸ n)) q
theorem Kp.of_fz {M : Addr → Prop} {B H H' : Hp} (hm : ∀ b, M b → B b ≠ none) (d : Fz M H H') : Kp B H H' := fun b o n q => d b o (fun z => hm b z n) q
theorem upd_some {H : Hp} {a b : Addr} {o : HO} (h : H b ≠ none) : upd H a o b ≠ none := by
  unfold upd
  split
  · exact nofun
  · exact h
theorem upd_none {H : Hp} {a b : Addr} {o : HO} (h : upd H a o b = none) : b ≠ a ∧ H b = none := by
  unfold upd at h
  split at h
  · cases h
  · rename_i n; exact ⟨n, h⟩
/-- what is not in a later heap was not in the earlier one -/
theorem base_dr {r D : Addr} {H1 H : Hp} {o : HO} (d : Dr r H1 H) (hD : H D ≠ none) {b : Addr} (h : H b = none) : upd H1 D o b = none := by
  have n1 : b ≠ D := fun z => hD (z ▸ h)
  rw [upd_ne n1]
  cases e : H1 b with
  | none => rfl
  | some u =>
    have n2 : b ≠ r := (d.rg.ne h)
    rw [d.fx b u n2 e] at h
    cases h
theorem base_ex {D : Addr} {H1 H : Hp} {o : HO} (d : Ex H1 H) (hD : H D ≠ none) {b : Addr} (h : H b = none) : upd H1 D o b = none := by
  have n1 : b ≠ D := fun z => hD (z ▸ h)
  rw [upd_ne n1]
  exact d.free h
/-- a comprehension's reading behind its iterable -/
def LcF (J : It) (g : TG) (tt : TT) (te : TE) (vs : List Nat) (σ : L2.St) (H1 : Hp) (Q : VK) : Prop := ∀ D, H1 D = none → ∃ W : Nat → Nat → Hp → Prop, (∃ m, W 0 m (upd H1 D (.lst []))) ∧ ∀ i m H, W i m H →
  (J.stop i H ∧ Q (.ref D) H) ∨ (J.go i H ∧ ∃ Nx : Hp → Prop, (∀ H', Nx H' → ∃ m', m' < m ∧ W (i + 1) m' H') ∧ ∀ x H', J.yld i H x H' → g x (wipe σ vs) H' fun σ2 H2 => wipe σ2 vs = wipe σ vs ∧ tt σ2 H2 fun b H3 =>
    if b = true then te σ2 H3 fun y H4 => ∃ acc, H4 D = some (.lst acc) ∧ acc.length < sizeLine ∧ Nx (upd H4 D (.lst (acc ++ [y]))) else Nx H3)
theorem tLc_eq {wi : TI} {g : TG} {tt : TT} {te : TE} {vs : List Nat} {σ : L2.St} {H : Hp} {Q : VK} : tLc wi g tt te vs σ H Q = wi σ H fun J H1 => LcF J g tt te vs σ H1 Q := rfl
/-- a loop's reading behind its iterable -/
def ForF (J : It) (g : TG) (tb : TS) (D : Ends) (σ : L2.St) (H1 : Hp) : Prop := ∃ W : Nat → Nat → L2.St → Hp → Prop, (∃ m, W 0 m σ H1) ∧ ∀ i m σ H, W i m σ H →
  (J.stop i H ∧ D.nx σ H) ∨ (J.go i H ∧ ∃ N : L2.St → Hp → Prop, (∀ σ' H', N σ' H' → ∃ m', m' < m ∧ W (i + 1) m' σ' H') ∧ ∀ x H', J.yld i H x H' → g x σ H' fun σ2 H2 => tb { D with nx := N, ct := N, bk := D.nx } σ2 H2)
theorem tFor_eq {wi : TI} {g : TG} {tb : TS} {D : Ends} {σ : L2.St} {H : Hp} : tFor wi g tb D σ H = wi σ H fun J H1 => ForF J g tb D σ H1 := rfl
theorem for_f {J : It} {n : Nat} {G : Hp → Prop} {Y : Nat → Hp → V → Hp → Prop} (w : Walk J n G Y) {g : TG} {tb : TS} {D : Ends} {σ : L2.St} {H : Hp} (Pv : Nat → L2.St → Hp → Prop) (h0 : Pv 0 σ H) (hG : ∀ i σ H, i ≤ n → Pv i σ H → G H)
    (hs : ∀ i x σ H H', i < n → Pv i σ H → Y i H x H' → g x σ H' fun σ2 H2 => tb { D with nx := Pv (i + 1), ct := Pv (i + 1), bk := D.nx } σ2 H2) (hd : ∀ σ H, Pv n σ H → D.nx σ H) : ForF J g tb D σ H := for_it w Pv h0 hG hs hd
/-- a comprehension without a test, over anything that is walked -/
theorem lc_f {J : It} {n : Nat} {G : Hp → Prop} {Y : Nat → Hp → V → Hp → Prop} (w : Walk J n G Y) {g : TG} {te : TE} {vs : List Nat} {σ : L2.St} {H1 : Hp} {Q : VK}
    {M : Addr → Prop} {I : Hp → Prop} (hM : ∀ b, M b → H1 b ≠ none) (hI : ∀ H D o, H1 D = none → I H → I (upd H D o)) (I1 : I H1)
    (hG : ∀ H, Fz M H1 H → I H → G H) (hn : n < sizeLine) (E : Nat → Hp → Hp → V → Prop)
    (mono : ∀ i B H H' y, Kp B H H' → E i B H y → E i B H' y)
    (turn : ∀ D i x H H', i < n → H1 D = none → H D ≠ none → Fz M H1 H → I H → Y i H x H' → ∀ Qn : VK,
      (∀ y H4, Fz M H H4 → I H4 → E i (upd H1 D (.lst [])) H4 y → Qn y H4) → g x (wipe σ vs) H' fun σ2 H2 => wipe σ2 vs = wipe σ vs ∧ te σ2 H2 Qn)
    (done : ∀ D ys H, H1 D = none → Fz M H1 H → I H → H D = some (.lst ys) → ys.length = n → (∀ i y, ys[i]? = some y → E i (upd H1 D (.lst [])) H y) → Q (.ref D) H) :
    LcF J g tYes te vs σ H1 Q := by
  intro D hD
  have nM : ¬ M D := fun z => hM D z hD
  refine lc_it w (Qd := fun H => Q (.ref D) H) (fun i H => Fz M H1 H ∧ I H ∧ ∃ ys, H D = some (.lst ys) ∧ ys.length = i ∧ ∀ j y, ys[j]? = some y → E j (upd H1 D (.lst [])) H y)
    ⟨Fz.refl.keep hD, hI _ _ _ hD I1, [], upd_same, rfl, fun j y e => by simp at e⟩ (fun i H _ p => hG H p.1 p.2.1) ?_ ?_
  · rintro i x H H' hi ⟨p1, p2, ys, p3, p4, p5⟩ hY
    refine turn D i x H H' hi hD (by rw [p3]; exact nofun) p1 p2 hY (fun y H4 => ∃ acc, H4 D = some (.lst acc) ∧ acc.length < sizeLine ∧ (Fz M H1 (upd H4 D (.lst (acc ++ [y]))) ∧ I (upd H4 D (.lst (acc ++ [y]))) ∧
      ∃ ys, upd H4 D (.lst (acc ++ [y])) D = some (.lst ys) ∧ ys.length = i + 1 ∧ ∀ j z, ys[j]? = some z → E j (upd H1 D (.lst [])) (upd H4 D (.lst (acc ++ [y]))) z)) fun y H4 r1 r2 r3 => ?_
    have hD4 : H4 D = some (.lst ys) := r1 D _ nM p3
    have kp : Kp (upd H1 D (.lst [])) H H4 := Kp.of_fz (fun b z => upd_some (hM b z)) r1
    have kp2 : Kp (upd H1 D (.lst [])) H4 (upd H4 D (.lst (ys ++ [y]))) := fun b o z e => by
      rw [upd_ne (upd_none z).1]; exact e
    refine ⟨ys, hD4, by omega, (p1.trans r1).keep hD, hI _ _ _ hD r2, ys ++ [y], upd_same, by simp [p4], fun j z e => ?_⟩
    rcases Nat.lt_or_ge j ys.length with hj | hj
    · rw [List.getElem?_append_left hj] at e
      exact mono _ _ _ _ _ kp2 (mono _ _ _ _ _ kp (p5 j z e))
    · rw [List.getElem?_append_right hj] at e
      have e2 : j - ys.length = 0 := by
        rcases Nat.eq_zero_or_pos (j - ys.length) with h | h
        · exact h
        · rw [List.getElem?_eq_none (by simp; omega)] at e; cases e
      have e3 : z = y := by rw [e2] at e; simpa using e.symm
      have e4 : j = i := by omega
      subst e3 e4
      exact mono _ _ _ _ _ kp2 r3
  · rintro H ⟨p1, p2, ys, p3, p4, p5⟩
    exact done D ys H hD p1 p2 p3 p4 p5
/-! ### the walks -/
section
variable {K : PySem.W.Frag} {te : TE} {g : TG} {j : Nat} {vs : List Nat} {σ : L2.St} {H : Hp} {Q : VK}
/-- things being drawn, over anything -/
theorem lc_dr {J : It} {n : Nat} {G : Hp → Prop} {Y : Nat → Hp → V → Hp → Prop} (w : Walk J n G Y) {r : Addr} (hR : Rng r H) (hG : ∀ H', Dr r H H' → G H') (hn : n ≤ 100000)
    (E : Nat → Hp → Hp → V → Prop) (mono : ∀ i B H H' y, Kp B H H' → E i B H y → E i B H' y)
    (turn : ∀ D i x H' H2, i < n → H D = none → H' D ≠ none → Dr r H H' → Y i H' x H2 → ∀ Qn : VK, (∀ y H4, Dr r H' H4 → E i (upd H D (.lst [])) H4 y → Qn y H4) →
      g x (wipe σ vs) H2 fun σ2 H3 => wipe σ2 vs = wipe σ vs ∧ te σ2 H3 Qn)
    (done : ∀ D ys H', H D = none → Dr r H H' → H' D = some (.lst ys) → ys.length = n → (∀ i y, ys[i]? = some y → E i (upd H D (.lst [])) H' y) → Q (.ref D) H') :
    LcF J g tYes te vs σ H Q := by
  refine lc_f (M := Mr r) (I := Rng r) w (fun b z => ?_) (fun H' D o n h => ?_) hR (fun H' f i => hG H' (fz_dr f i)) (Nat.lt_of_le_of_lt hn (by decide)) E mono (fun D i x H2 H' hi hD hD2 f hI hY Qn k => ?_)
    fun D ys H' hD f hI hy hl he => done D ys H' hD (fz_dr f hI) hy hl he
  · obtain ⟨a, b', h1, _⟩ := hR
    rw [z, h1]
    exact nofun
  · obtain ⟨x, y, h1, h2⟩ := h
    exact ⟨x, y, by rw [upd_ne (hR.ne n).symm]; exact h1, h2⟩
  · exact turn D i x H2 H' hi hD hD2 (fz_dr f hI) hY Qn fun y H4 d e => k y H4 d.fz d.rg e
/-- nothing but new objects -/
theorem lc_ex {J : It} {n : Nat} {G : Hp → Prop} {Y : Nat → Hp → V → Hp → Prop} (w : Walk J n G Y) (hG : ∀ H', Ex H H' → G H') (hn : n ≤ 100000)
    (E : Nat → Hp → Hp → V → Prop) (mono : ∀ i B H H' y, Kp B H H' → E i B H y → E i B H' y)
    (turn : ∀ D i x H' H2, i < n → H D = none → H' D ≠ none → Ex H H' → Y i H' x H2 → ∀ Qn : VK, (∀ y H4, Ex H' H4 → E i (upd H D (.lst [])) H4 y → Qn y H4) →
      g x (wipe σ vs) H2 fun σ2 H3 => wipe σ2 vs = wipe σ vs ∧ te σ2 H3 Qn)
    (done : ∀ D ys H', H D = none → Ex H H' → H' D = some (.lst ys) → ys.length = n → (∀ i y, ys[i]? = some y → E i (upd H D (.lst [])) H' y) → Q (.ref D) H') :
    LcF J g tYes te vs σ H Q :=
  lc_f (M := M0) (I := fun _ => True) w (fun _ z => z.elim) (fun _ _ _ _ _ => trivial) trivial (fun H' f _ => hG H' (fz_ex f)) (Nat.lt_of_le_of_lt hn (by decide)) E mono
    (fun D i x H2 H' hi hD hD2 f _ hY Qn k => turn D i x H2 H' hi hD hD2 (fz_ex f) hY Qn fun y H4 d e => k y H4 (ex_fz d) trivial e)
    fun D ys H' hD f _ hy hl he => done D ys H' hD (fz_ex f) hy hl he
/-- the elements' values are known: f i -/
theorem lc_val {J : It} {n : Nat} {G : Hp → Prop} {Y : Nat → Hp → V → Hp → Prop} (w : Walk J n G Y) (hG : ∀ H', Ex H H' → G H') (hn : n ≤ 100000) (f : Nat → V)
    (turn : ∀ i x H' H2, i < n → Ex H H' → Y i H' x H2 → ∀ Qn : VK, (∀ H4, Ex H' H4 → Qn (f i) H4) →
      g x (wipe σ vs) H2 fun σ2 H3 => wipe σ2 vs = wipe σ vs ∧ te σ2 H3 Qn)
    (done : ∀ D H', H D = none → Ex H H' → H' D = some (.lst ((List.range n).map f)) → Q (.ref D) H') :
    LcF J g tYes te vs σ H Q := by
  refine lc_ex w hG hn (fun i _ _ y => y = f i) (fun _ _ _ _ _ _ e => e) (fun D i x H' H2 hi _ _ e hY Qn k => turn i x H' H2 hi e hY Qn fun H4 d => k _ H4 d rfl) fun D ys H' hD e hy hl he => done D H' hD e ?_
  rw [hy]
  congr 2
  apply List.ext_getElem?
  intro i
  by_cases hi : i < n
  · have h1 : i < ys.length := by omega
    have := he i ys[i] (by simp [h1])
    simp [h1, hi, this]
  · rw [List.getElem?_eq_none (by omega), List.getElem?_eq_none (by simp; omega)]
end
end Ab

set_option Elab.async false
set_option linter.all false
set_option maxRecDepth 100000
set_option maxHeartbeats 4000000
/-! AbD: further facts of the head, as Bools. -/
namespace Ab
open PySem PySem.Spec PyProof.Rows L2 He
/-- isinstance of an own class's instance and a built-in class: no -/
def kitF (K : PySem.W.Frag) (x : Str) (T : String) : Bool := decide (PySem.W.kitOne K (.ref (ga K x)) (.type T) = some false)
/-- what isinstance asks of an own class -/
def insB (K : PySem.W.Frag) (x : Str) : Bool := eqO (PySem.W.findIn K (.ref (ga K x)) "__class__") (some (some (.builtin "object.__class__"))) &&
  (eqO (PySem.W.specialIn K (.builtin "object.__class__") "__get__") (some (some (.builtin "getset_descriptor.__get__"))) && (decide (PySem.W.takesIn K (.builtin "object.__class__") = some true) &&
  decide (PySem.W.mroIn K (ga K x) (.type "object") = some true)))
theorem insB_ok {K : PySem.W.Frag} {x : Str} (h : insB K x = true) (c : Cls K (ga K x)) {H : Hp} {a dx : Addr} {fs : List (Str × V)} (e : H a = some (.ins (ga K x) dx fs)) : TyX K H (.ref a) (.ref (ga K x)) := by
  obtain ⟨h1, h⟩ := ba h
  obtain ⟨h2, h⟩ := ba h
  obtain ⟨h3, h4⟩ := ba h
  exact .base (.ins e c (eqO_ok h1) (eqO_ok h2) (of_decide_eq_true h3) (of_decide_eq_true h4))
/-- the class's attributes are read plainly -/
def readB (K : PySem.W.Frag) (x : Str) : Bool := PySem.W.readsIn K (ga K x) (.type "type") && eqO (PySem.W.specialIn K (.ref (ga K x)) "__getattribute__") (some (some (.builtin "type.__getattribute__")))
theorem readB_ok {K : PySem.W.Frag} {x : Str} (h : readB K x = true) : ClX.CRead K (ga K x) (.type "type") := by
  obtain ⟨h1, h2⟩ := ba h
  exact ⟨h1, eqO_ok h2⟩
/-- C.f is a whole number -/
def cvalB (K : PySem.W.Frag) (x f : Str) (i : Int) : Bool := match PySem.W.findCls K (.ref (ga K x)) (.type "type") f with
  | some (.val (.int j _)) => decide (j = i)
  | _ => false
theorem cvalB_ok {K : PySem.W.Frag} {x f : Str} {i : Int} (h : cvalB K x f i = true) : ∃ u, ClX.CVal K (ga K x) (.type "type") f (.int i) u := by
  unfold cvalB at h
  split at h
  · rename_i j t e
    have : j = i := of_decide_eq_true h
    subst this
    exact ⟨_, e, ⟨t, rfl⟩⟩
  · cases h
end Ab

set_option Elab.async false
set_option linter.all false
set_option maxRecDepth 100000
set_option maxHeartbeats 4000000
/-! AbR: repr at the hand's level, also of lists with own objects within. -/
namespace Ab
open PySem PySem.Spec PyProof.Rows L2
/-- u shows as t in every heap over H0; as: the containers that are opened; d: units; k: room -/
def RepJ (X : Cx) (k d : Nat) (as : List Addr) (H0 : Hp) (u : Value) (t : Str) : Prop :=
  ∀ (n : Nat), n + t.length ≤ sizeLine → ∀ (A : Around) (g : List Code) (E : Value → Shared → Prop) (pins : List (Addr × Obj)) (σ : L2.St) (H : Hp) (s : Shared) (Q : Str → Shared → Prop),
    A.frames = X.A.frames → Room k A → A.guards = some g → (∀ b ∈ as, Clear g b) → A.units + d < cLine → Ex H0 H → Inv X pins σ H s →
    (∀ H' s', Ex H H' → Inv X pins σ H' s' → Q t s') → wpAny (model X.prog X.w) A (pyReprUnder n u) Q E s
section
variable {X : Cx} {k d : Nat} {as : List Addr} {H0 : Hp} {u : Value} {t : Str}
theorem RepJ.ex (h : RepJ X k d as H0 u t) {H1 : Hp} (e : Ex H0 H1) : RepJ X k d as H1 u t :=
  fun n hn A g E pins σ H s Q a1 a2 a3 a4 a5 a6 => h n hn A g E pins σ H s Q a1 a2 a3 a4 a5 (e.trans a6)
theorem RepJ.more (h : RepJ X k d as H0 u t) {bs : List Addr} (e : ∀ b ∈ as, b ∈ bs) : RepJ X k d bs H0 u t :=
  fun n hn A g E pins σ H s Q a1 a2 a3 a4 => h n hn A g E pins σ H s Q a1 a2 a3 fun b hb => a4 b (e b hb)
theorem RepJ.le (h : RepJ X k d as H0 u t) {k' d' : Nat} (e : k ≤ k') (e' : d ≤ d') : RepJ X k' d' as H0 u t :=
  fun n hn A g E pins σ H s Q a1 a2 a3 a4 a5 => h n hn A g E pins σ H s Q a1 (a2.mono e) a3 a4 (by omega)
/-- plain data -/
theorem RepJ.ofK (h : ∀ (pins : List (Addr × Obj)) (σ : L2.St) (H : Hp) (s : Shared), Ex H0 H → Inv X pins σ H s → ReprK X.prog X.w as s.heap d u t) : RepJ X k d as H0 u t :=
  fun n hn A g E pins σ H s Q _ _ hg hcl hu e I q => h pins σ H s e I n hn A g E s Q hg hcl hu (fun _ _ z => z) fun h' tk kp => q H _ (Same.refl _) (I.kept kp)
theorem RepJ.is (h : ReprIs X.prog X.w u t) : RepJ X k d [] H0 u t := .ofK fun _ _ _ _ _ _ => ReprK.of_is h _ _ _
/-- an instance, by its class's own def -/
theorem RepJ.own {a C dx f : Addr} {fs : List (Str × V)} {fd : FuncData} {ps : List Str} {sp : Sp} (F : Fq false X.prog X.w X.K X.mg X.base CX0 k f fd ps sp) (hb : Bw X.K fd ps 1 [] gPos)
    (hs : PySem.W.findIn X.K (.ref C) "__repr__" = some (some (.ref f))) (hf : PySem.W.isFn X.K (.ref f) = true)
    (h : ∀ H, Ex H0 H → H a = some (.ins C dx fs) ∧ sp [.ref a] H (fun v H' => v = .str t ∧ Ex H H') E0) : RepJ X k d [] H0 (.ref a) t := by
  intro n hn A g E pins σ H s Q hfr hr hg hcl hu e I q
  obtain ⟨ha, hsp⟩ := h H e
  obtain ⟨mA, J, _⟩ := ins_get I.hok ha
  obtain ⟨od, J, _⟩ := J.look
  refine wpAny_pyReprUnder_ref (by omega) ?_
  unfold pyReprObjUnder pyReprObjBy
  refine wpAny_bind (wpAny_cRoomFor hr.units0 ?_)
  refine wpAny_bind (wpAny_bind (J.type.here ((PySem.W.looks_findIn I.kIn hs).here ?_)))
  simp only [Option.isNone_some, Bool.false_eq_true, if_false]
  have e0 : Env0 X.prog X.w X.K X.mg X.base A X.stack s H := ⟨hfr.trans I.ok.frames, I.env0.mod, I.env0.bs, I.env0.bsz, I.env0.funs, I.env0.frf, I.env0.hok, I.env0.bare⟩
  obtain ⟨zs, hB, hV⟩ := hb s [.ref a] [] I.kIn rfl rfl
  have run : wpAny (model X.prog X.w) A (call (.ref f) [.ref a]) (fun r s' => ∃ tk H', r = .str t tk ∧ Ex H H' ∧ Inv X pins σ H' s') E s := by
    refine wpAny_call (codeAny_mono (F.go A X.stack s H _ _ _ _ E0 gd_false hr e0 hB (hV [.ref a] [] (.cons rfl .nil) .nil) hsp) fun r s' hq => ?_)
    cases r with
    | error _ => exact hq.elim
    | ok fl =>
      cases fl with
      | ret w' =>
        obtain ⟨v, H', I', r', rfl, ex⟩ := I.after hq
        obtain ⟨tk, rfl⟩ := r'
        exact ⟨tk, H', rfl, ex, I'⟩
      | _ => exact hq.elim
  simp only [callSpecialIfBoundBy?, bindSpecialIfBound?]
  refine wpAny_bind (wpAny_holding (wpAny_bind (wpAny_bind (wpAny_bind (J.type.here ((PySem.W.looks_findIn I.kIn hs).here ?_))))))
  refine wpAny_bind (wpAny_askSetting (wpAny_ite ?_))
  have fin : ∀ (Q' : Option Value → Shared → Prop), (∀ r s', (∃ tk H', r = .str t tk ∧ Ex H H' ∧ Inv X pins σ H' s') → Q' (some r) s') → wpAny (model X.prog X.w) A (call (.ref f) ([.ref a] ++ []) >>= fun v => pure (some v)) Q' E s := fun Q' h' =>
    wpAny_bind (wpAny_mono run (fun v s' z => wpAny_pure (h' v s' z)) fun _ _ z => z)
  split
  · refine wpAny_bind ((PySem.W.bind_fn I.kIn _ (beq_iff_eq.mp hf)).here (wpAny_pure ?_))
    refine fin _ fun r s' z => ?_
    obtain ⟨tk, H', rfl, ex, I'⟩ := z
    exact wpAny_bind (wpAny_isInstance (T := "str") (b := true) rfl isSubtype_str_str (wpAny_pure ⟨_, _, rfl, q H' s' ex I'⟩))
  · refine wpAny_tryCatch (wpAny_bind ((PySem.W.bind_fn I.kIn _ (beq_iff_eq.mp hf)).here (wpAny_pure ?_)))
    refine fin _ fun r s' z => ?_
    obtain ⟨tk, H', rfl, ex, I'⟩ := z
    exact wpAny_bind (wpAny_isInstance (T := "str") (b := true) rfl isSubtype_str_str (wpAny_pure ⟨_, _, rfl, q H' s' ex I'⟩))
end
/-! ### lists -/
section
variable {X : Cx} {k d n : Nat} {as : List Addr} {H0 : Hp} {a : Addr} {vs : List V} {ts : List Str} {A : Around} {g : List Code}
theorem loop_units (A : Around) (z : Args) : (A.under (.builtin "list.__repr__.loop" z)).units = A.units + 1 := units_under_list_loop A z
theorem loop_frames (A : Around) (z : Args) : (A.under (.builtin "list.__repr__.loop" z)).frames = A.frames := by
  first | rfl | simp [Around.under, Code.envs, Code.isFrame, pushEnvs]
theorem loop_depth (A : Around) (z : Args) : (A.under (.builtin "list.__repr__.loop" z)).depth ≤ A.depth + 1 := by
  first | exact Nat.le_refl _ | exact Nat.le_succ _ | simp [Around.under, Code.weight, Code.isCreation, Code.isGuard, Code.isCaller, Code.frames, Code.isFrame, guardIds]
theorem loop_handled (A : Around) (z : Args) : (A.under (.builtin "list.__repr__.loop" z)).handled = A.handled := by
  first | rfl | simp [Around.under]
theorem room_loop (r : Room (k + 1) A) (z : Args) : Room k (A.under (.builtin "list.__repr__.loop" z)) :=
  ⟨(loop_handled A z).trans r.hd, by have := r.dp; have := loop_depth A z; omega, by have := r.un; have := loop_units A z; omega⟩
/-- what the items come to -/
def Shw (X : Cx) (k d : Nat) (as : List Addr) (H0 : Hp) (vs : List V) (ts : List Str) : Prop :=
  ts.length = vs.length ∧ ∀ (i : Nat) (v : V), vs[i]? = some v → ∃ t, ts[i]? = some t ∧ ∀ u, RelV v u → RepJ X k d as H0 u t
theorem Shw.ex (h : Shw X k d as H0 vs ts) {H1 : Hp} (e : Ex H0 H1) : Shw X k d as H1 vs ts :=
  ⟨h.1, fun i v q => let ⟨t, h1, h2⟩ := h.2 i v q; ⟨t, h1, fun u r => (h2 u r).ex e⟩⟩
theorem Shw.nil : Shw X k d as H0 [] [] := ⟨rfl, fun i v q => by simp at q⟩
theorem Shw.cons {v : V} {t : Str} (h1 : ∀ u, RelV v u → RepJ X k d as H0 u t) (h2 : Shw X k d as H0 vs ts) : Shw X k d as H0 (v :: vs) (t :: ts) := by
  refine ⟨by simp [h2.1], fun i w q => ?_⟩
  cases i with
  | zero =>
    simp at q
    subst q
    exact ⟨t, rfl, h1⟩
  | succ i =>
    simp at q
    obtain ⟨t', e, r⟩ := h2.2 i w q
    exact ⟨t', by simpa using e, r⟩
def pO (acc : Array Value) (c : Nat) : Obj := { cls := .type "list", dict := none, data := .seq acc c, slots := #[] }
theorem vals_at : ∀ {xs : List V} {us : List Value} {i : Nat} {u : Value}, Vals xs us → us[i]? = some u → ∃ v, xs[i]? = some v ∧ RelV v u
  | _, _, i, u, .nil, e => by simp at e
  | _, _, 0, u, .cons r _, e => by
    simp at e
    subst e
    exact ⟨_, rfl, r⟩
  | _, _, i + 1, u, .cons _ q, e => by
    simp at e
    obtain ⟨v, h1, h2⟩ := vals_at q e
    exact ⟨v, by simpa using h1, h2⟩
open Builtin Builtin.List in
theorem rep_loop {P : Addr} {pins : List (Addr × Obj)} {σ : L2.St} {R : Result → Shared → Prop} (hne : a ≠ P) (rP : FbM.Rec X pins P) (hL : ∀ H, Ex H0 H → SqL X.K H a vs) (hfr : A.frames = X.A.frames) (hr : Room (k + 1) A)
    (hg : A.guards = some g) (hcl : ∀ b ∈ as, Clear g b) (hu : A.units + (d + 1) < cLine) (hna : a ∉ as) (hT : Shw X k d as H0 vs ts) (hsz : n + (listText ts).length ≤ sizeLine) :
    ∀ (m i : Nat) (s : Shared) (H : Hp) (acc : Array Value) (c : Nat) (done : List (Str × Tok)), vs.length - i = m → i ≤ vs.length → Ex H0 H → Inv X ((P, pO acc c) :: pins) σ H s →
      acc.toList = strValues done → done.map (·.1) = ts.take i → (∀ H' s' u, Ex H H' → Inv X pins σ H' s' → R (.ok (.ret (.str (listText ts) u))) s') →
      codeAny (model X.prog X.w) A (.builtin "list.__repr__.loop" ⟨[.ref a, rawInt i, .ref P, rawInt ((n + piled (ts.take i) : Nat) : Int)], []⟩) R s := by
  have z0 : (listText ts).length = (textFrom 0 "[" ts).length + 1 := by
    show (textFrom 0 "[" ts ++ "]").length = _
    rw [strLen_append]
    rfl
  have zL := textFrom_len ts 0 "["
  have z1 : vs.length ≤ sizeLine := by
    have h1 := zL.1
    rw [if_neg (Nat.lt_irrefl 0)] at h1
    have h2 := hT.1
    omega
  have z2 : ∀ t ∈ ts, t.length ≤ sizeLine := fun t ht => by
    have h2 := zL.2.1 t ht
    omega
  have z3 : (listText ts).length ≤ sizeLine := by omega
  have z4 := piled_le_listText ts
  intro m
  induction m with
  | zero =>
    intro i s H acc c done hm hi e0 I hacc hdone hR
    have hin : i = vs.length := by omega
    obtain ⟨its, rv, ⟨o, na, ho, hc, hd0, hd⟩, _⟩ := (ClX.unpin I).list (hL H e0)
    have hP := ClX.pin_at I
    refine codeAny_builtin F.entry_list_repr_loop ?_
    show wpAny _ _ («list.__repr__.loop» ⟨[.ref a, .int i 0, .ref P, .int ((n + piled (ts.take i) : Nat) : Int) 0], []⟩) _ _ s
    rw [repr_loop_tree]
    refine wpAny_bind (wpAny_listItems ho hd ?_)
    have q0 : its.toArray[(i : Int).toNat]? = none := by simp [hin, ← rv.length]
    simp only [q0]
    unfold reprEnd
    refine wpAny_bind (wpAny_listItems hP rfl ?_)
    rw [hacc, repr_fold]
    refine wpAny_bind (wpAny_pure ?_)
    have q1 : done.map (·.1) = ts := by rw [hdone, hin, ← hT.1, List.take_length]
    rw [q1]
    refine wpAny_bind (wpAny_mkStr (wpAny_pure ?_) z3)
    exact hR H _ _ (Same.refl _) ((ClX.unpin I).tok _)
  | succ m ih =>
    intro i s H acc c done hm hi e0 I hacc hdone hR
    have hlt : i < vs.length := by omega
    obtain ⟨its, rv, ⟨o, na, ho, hc, hd0, hd⟩, _⟩ := (ClX.unpin I).list (hL H e0)
    have hli : i < its.length := by rw [← rv.length]; exact hlt
    obtain ⟨v, hv, rvi⟩ := vals_at (i := i) (u := its[i]) rv (by simp [hli])
    obtain ⟨t, ht, hrep⟩ := hT.2 i v hv
    have hp1 := piled_take_succ ht
    have hp2 := piled_take_le ts (i + 1)
    refine codeAny_builtin F.entry_list_repr_loop ?_
    show wpAny _ _ («list.__repr__.loop» ⟨[.ref a, .int i 0, .ref P, .int ((n + piled (ts.take i) : Nat) : Int) 0], []⟩) _ _ s
    rw [repr_loop_tree]
    refine wpAny_bind (wpAny_listItems ho hd ?_)
    have q0 : its.toArray[(i : Int).toNat]? = some its[i] := by simp [hli]
    simp only [q0]
    rw [Int.toNat_natCast]
    refine wpAny_bind (wpAny_holding (hrep _ rvi (n + piled (ts.take i) + 1) (by omega) _ _ _ _ σ H s _ ((loop_frames _ _).trans hfr) (room_loop hr _) (guards_under_guard (isGuard_list_loop _) hg)
      (fun b hb => (hcl b hb).cons (a := a) fun e => hna (e ▸ hb)) (by rw [loop_units]; omega) e0 I fun H1 s1 ex1 I1 => ?_))
    refine wpAny_bind (wpAny_mkStr ?_ (z2 t (List.mem_of_getElem? ht)))
    refine wpAny_bind ?_
    show wpAny _ _ (updateSeq P _) _ _ _
    have hasz : acc.size ≤ sizeLine := by
      have e1 : acc.toList.length = acc.size := by simp
      have e2 : (strValues done).length = done.length := by simp [strValues]
      have e3 : done.length = (ts.take i).length := by rw [← hdone, List.length_map]
      have e4 : (ts.take i).length ≤ i := by rw [List.length_take]; omega
      rw [hacc] at e1
      omega
    have hP1 := ClX.pin_at I1
    refine wpAny_updateSeq hP1 rfl (wpAny_pure ⟨F.quiet_list_repr_loop _, ?_⟩) hasz
    have e1 : ((i : Int) + 1) = ((i + 1 : Nat) : Int) := by omega
    have e2 : n + piled (ts.take i) + (t.length + 2) = n + piled (ts.take (i + 1)) := by omega
    rw [e1, e2]
    have J : Inv X pins σ H1 { s1 with heap := s1.heap.update P (Obj.mapSeq fun x => x.push (.str t s1.toks)), toks := s1.toks + 1 } :=
      rP.turn (ClX.unpin I1) (ClX.pin_un I1) fun b o hb e => (Heap.get?_update_other _ _ fun h : P = b => hb h.symm).trans e
    have pinP := I1.pin (P, pO acc c) (List.mem_append_right _ List.mem_cons_self)
    have hP2 := Heap.get?_update_self (Obj.mapSeq fun x => x.push (.str t s1.toks)) hP1 rfl
    have J2 : Inv X ((P, Obj.mapSeq (fun x => x.push (.str t s1.toks)) (pO acc c)) :: pins) σ H1 { s1 with heap := s1.heap.update P (Obj.mapSeq fun x => x.push (.str t s1.toks)), toks := s1.toks + 1 } := by
      refine J.pins_of fun p hp => ?_
      rcases List.mem_cons.mp hp with e | e
      · subst e
        exact ⟨hP2, pinP.2.1, pinP.2.2.1, pinP.2.2.2.1, fun v z => nomatch z⟩
      · exact J.pin p (List.mem_append_right _ e)
    exact ih (i + 1) _ H1 (acc.push (.str t s1.toks)) _ (done ++ [(t, s1.toks)]) (by omega) hlt (e0.trans ex1) J2 (by simp [hacc, strValues]) (by simp [List.take_add_one, ht, hdone]) fun H' s' u e' I' => hR H' s' u (ex1.trans e') I'
open Builtin Builtin.List in
theorem rep_at {pins : List (Addr × Obj)} {σ : L2.St} {H : Hp} {s : Shared} {R : Result → Shared → Prop} (h0 : vs ≠ []) (hL : ∀ H, Ex H0 H → SqL X.K H a vs) (hfr : A.frames = X.A.frames) (hr : Room (k + 1) A)
    (hg : A.guards = some g) (hca : Clear g a) (hcl : ∀ b ∈ as, Clear g b) (hu : A.units + (d + 1) < cLine) (hna : a ∉ as) (hT : Shw X k d as H0 vs ts) (hsz : n + (listText ts).length ≤ sizeLine) (e0 : Ex H0 H) (I : Inv X pins σ H s)
    (hR : ∀ H' s' u, Ex H H' → Inv X pins σ H' s' → R (.ok (.ret (.str (listText ts) u))) s') :
    wpAny (model X.prog X.w) A.in1 (Builtin.listReprAt n ⟨[.ref a], []⟩) (fun fin s' => match fin with | .done f => R (.ok f) s' | .again c' => c'.quiet = true ∧ codeAny (model X.prog X.w) A c' R s') (fun e s' => R (.error e) s') s := by
  obtain ⟨its, rv, ⟨o, na, ho, hc, hd0, hd⟩, _⟩ := I.list (hL H e0)
  obtain ⟨x, l, rfl⟩ : ∃ x l, its = x :: l := by
    cases its with
    | nil => cases rv; exact absurd rfl h0
    | cons x l => exact ⟨x, l, rfl⟩
  refine wpAny_list_repr_head (A := A.in1) hg (fun v rest kw hm => listSameRef_of_ne (hca _ _ _ _ hm)) ho hd ?_
  refine wpAny_bind (m := newList []) (wpAny_newObj_type ?_)
  refine wpAny_pure ⟨F.quiet_list_repr_loop _, ?_⟩
  have J : Inv X ((s.heap.objs.size, pO #[] 0) :: pins) σ H { s with heap := s.heap.push (pO #[] 0) } :=
    ClX.pin_new (t' := s.toks) I (fun _ _ z => Heap.get?_push_of_some _ z) (Nat.le_refl _) (Heap.get?_push_size s.heap rfl) (fun v z => nomatch z)
  exact rep_loop (P := s.heap.objs.size) (pins := pins) (σ := σ) (Nat.ne_of_lt (Heap.lt_size ho)) (FbM.rec_new I (Nat.le_refl _)) hL hfr hr hg hcl hu hna hT hsz _ 0 _ H #[] 0 [] rfl (Nat.zero_le _) e0 J rfl (by simp) hR
/-- a list's repr, called -/
theorem call_rep {pins : List (Addr × Obj)} {σ : L2.St} {H : Hp} {s : Shared} {Q : Value → Shared → Prop} {E : Value → Shared → Prop} (h0 : vs ≠ []) (hL : ∀ H, Ex H0 H → SqL X.K H a vs) (hfr : A.frames = X.A.frames) (hr : Room (k + 1) A)
    (hg : A.guards = some g) (hca : Clear g a) (hcl : ∀ b ∈ as, Clear g b) (hu : A.units + (d + 1) < cLine) (hna : a ∉ as) (hT : Shw X k d as H0 vs ts) (hsz : (listText ts).length ≤ sizeLine) (e0 : Ex H0 H) (I : Inv X pins σ H s)
    (hQ : ∀ H' s' u, Ex H H' → Inv X pins σ H' s' → Q (.str (listText ts) u) s') : wpAny (model X.prog X.w) A (call (.builtin "list.__repr__") [.ref a]) Q E s := by
  obtain ⟨its, rv, ⟨o, na, ho, hc, hd0, hd⟩, _⟩ := I.list (hL H e0)
  exact wpAny_call (codeAny_call_builtin F.slot_list_repr.plain F.entry_list_repr (F.slot_list_repr.check _ _ _ _ _ _ _ _ ⟨o, ho, hc⟩ (F.args_list_repr_1 _)
    (rep_at (n := 0) (R := callEnd Q E) h0 hL hfr hr hg hca hcl hu hna hT (by omega) e0 I hQ)))
theorem RepJ.list (h0 : vs ≠ []) (hL : ∀ H, Ex H0 H → SqL X.K H a vs) (hna : a ∉ as) (hT : Shw X k d as H0 vs ts) : RepJ X (k + 1) (d + 1) (a :: as) H0 (.ref a) (listText ts) := by
  intro n hn A g E pins σ H s Q hfr hr hg hcl hu e I q
  obtain ⟨its, rv, ⟨o, na, ho, hc, hd0, hd⟩, _⟩ := I.list (hL H e)
  refine wpAny_pyReprUnder_ref (by omega) (wpAny_pyReprObjUnder_twin (twin := "list.__repr__.under") ⟨o, ho, hc⟩ F.slot_list_repr.toG rfl (by omega) ?_)
  refine call_twin_plain F.plain_list_repr_under F.entry_list_repr_under F.check_list_repr_under ⟨o, ho, hc⟩ F.slot_list_repr.toG (F.args_list_repr_1 _) ?_
  exact rep_at (R := callEnd _ E) h0 hL hfr hr hg (hcl a (.head _)) (fun b hb => hcl b (.tail _ hb)) hu hna hT hn e I fun H' s' u ex I' => ⟨⟨_, _, rfl⟩, _, _, rfl, q H' s' ex I'⟩
/-- repr of a list -/
def rReprL (X : Cx) (k d : Nat) (xs : List V) (H : Hp) (Q : VK) : Prop := ∃ (a : Addr) (vs : List V) (as : List Addr) (ts : List Str), xs = [.ref a] ∧ vs ≠ [] ∧ H a = some (.lst vs) ∧ a ∉ as ∧ Shw X k d as H vs ts ∧ (listText ts).length ≤ sizeLine ∧
  ∀ H', Ex H H' → Q (.str (listText ts)) H'
theorem call_repr (hg : X.A.guards = some []) (hr : Room (k + 2) X.A) (hd : d ≤ 100) : CallR X (.builtin "repr") (rReprL X k d) := by
  intro pins s σ H xs us Q I r h
  obtain ⟨a, vs, as, ts, rfl, h0, ha, hna, hT, hsz, q⟩ := h
  obtain ⟨u, rfl, ru⟩ := vals1 r
  cases ru
  have hL : ∀ H', Ex H H' → SqL X.K H' a vs := fun H' e => SqL.of (e _ _ ha)
  obtain ⟨its, rv, ⟨o, na, ho, hc, hd0, hd'⟩, _⟩ := I.list (hL H (Same.refl _))
  have hun := hr.un
  refine call_repr_slot (by omega) ⟨o, ho, hc⟩ F.slot_list_repr.toG ?_
  exact call_rep (g := []) (X := X) h0 hL rfl hr.in1 hg (Clear.nil _) (fun b _ => Clear.nil b) (show X.A.units + 1 + (d + 1) < cLine by omega) hna hT hsz (Same.refl _) I fun H' s' u ex I' => ⟨_, _, rfl, .str (listText ts), H', I', ⟨_, rfl⟩, q H' ex⟩
end
theorem call_repr_str {X : Cx} : CallR X (.builtin "repr") (fun xs H Q => ∃ z : Str, xs = [.str z] ∧ (reprText z).length ≤ sizeLine ∧ Q (.str (reprText z)) H) := by
  intro pins s σ H xs us Q I r h
  obtain ⟨z, rfl, hz, q⟩ := h
  obtain ⟨u, rfl, t, rfl⟩ := vals1 r
  exact PySem.P.repr_of_str ⟨.str _, H, I.tok _, ⟨_, rfl⟩, q⟩ hz
/-! ### flat values, and containers of them -/
def flT : V → Str
  | .non => "None"
  | .bl b => (if b then "True" else "False" : String)
  | .int i => (toString i : String)
  | .str z => reprText z
  | _ => ""
def FlV : V → Prop
  | .non => True
  | .bl _ => True
  | .int i => i.natAbs.log2 < 1920
  | .str z => (reprText z).length ≤ 5000
  | _ => False
section
variable {X : Cx} {k d : Nat} {H0 : Hp} {a : Addr} {prog : Program} {w : World}
theorem fl_is {v : V} {u : Value} (h : FlV v) (r : RelV v u) : ReprIs prog w u (flT v) := by
  cases v with
  | non => cases r; exact ReprIs.none
  | bl b =>
    cases r
    cases b <;> exact ReprIs.bool _
  | int i => obtain ⟨t, rfl⟩ := r; exact ReprIs.int t h
  | str z => obtain ⟨t, rfl⟩ := r; exact ReprIs.str z t (Nat.le_trans h (by decide))
  | _ => exact h.elim
theorem RepJ.flat {v : V} (h : FlV v) : ∀ u, RelV v u → RepJ X k d [] H0 u (flT v) := fun _ r => .is (fl_is h r)
theorem Shw.flat {as : List Addr} : ∀ {vs : List V}, (∀ v ∈ vs, FlV v) → Shw X k d as H0 vs (vs.map flT)
  | [], _ => .nil
  | v :: vs, h => .cons (fun u r => (RepJ.flat (h v List.mem_cons_self) u r).more fun b hb => nomatch hb) (Shw.flat fun x hx => h x (List.mem_cons_of_mem _ hx))
theorem RepJ.nilL (h : H0 a = some (.lst [])) : RepJ X k d [] H0 (.ref a) "[]" := .ofK fun pins σ H s e I => by
  obtain ⟨its, rv, ⟨o, na, ho, hc, hd0, hd⟩, _⟩ := I.list (SqL.of (K := X.K) (e _ _ h))
  cases rv
  exact ReprK.listEmpty ho hc hd
theorem RepJ.flatL {vs : List V} (h : H0 a = some (.lst vs)) (h0 : vs ≠ []) (hf : ∀ v ∈ vs, FlV v) : RepJ X (k + 1) (d + 1) [a] H0 (.ref a) (listText (vs.map flT)) :=
  .list h0 (fun H e => SqL.of (e _ _ h)) (fun z => nomatch z) (.flat hf)
theorem all_flat {as : List Addr} {h₀ : Heap} : ∀ {vs : List V} {us : List Value}, Vals vs us → (∀ v ∈ vs, FlV v) → ReprAllK prog w as h₀ d us (vs.map flT)
  | _, _, .nil, _ => .nil
  | _, _, .cons r q, h => .cons (ReprK.of_is (fl_is (h _ List.mem_cons_self) r) _ _ _) (all_flat q fun x hx => h x (List.mem_cons_of_mem _ hx))
theorem RepJ.flatT {vs : List V} (h : H0 a = some (.tup vs)) (hf : ∀ v ∈ vs, FlV v) : RepJ X k (d + 1) [a] H0 (.ref a) (tupleText (vs.map flT)) := .ofK fun pins σ H s e I => by
  obtain ⟨its, rv, ⟨o, ho, hc, n, hd⟩, _⟩ := I.tuple (SqT.of (K := X.K) (e _ _ h))
  exact ReprK.tuple ho hc hd (fun z => nomatch z) (all_flat (by simpa using rv) hf)
def kvT (p : Key × V) : Str := flT (kV p.1) ++ ": " ++ flT p.2
theorem ents_flat {as : List Addr} {h₀ : Heap} : ∀ {kvs : List (Key × V)} {ws : List (Key × Value)} {es : List DictEntry}, KV kvs ws → Pairs (mixKind prog w) es ws → (∀ p ∈ kvs, FlV (kV p.1) ∧ FlV p.2) → ReprEntriesK prog w as h₀ d es (kvs.map kvT)
  | _, _, _, .nil, .nil, _ => .nil
  | p :: _, q :: _, e :: _, .cons r rs, .cons h1 h2 h3, h => by
    refine .cons (ReprK.of_is (fl_is (h _ List.mem_cons_self).1 ?_) _ _ _) (ReprK.of_is (fl_is (h _ List.mem_cons_self).2 ?_) _ _ _) (ents_flat rs h3 fun x hx => h x (List.mem_cons_of_mem _ hx))
    · rw [r.1]
      rcases keyIs_shape h1 with ⟨i, t, e1, e2⟩ | ⟨x, t, e1, e2⟩
      · rw [e1, e2]; exact ⟨t, rfl⟩
      · rw [e1, e2]; exact ⟨t, rfl⟩
    · rw [h2]
      exact r.2
theorem RepJ.flatD {kvs : List (Key × V)} (h : H0 a = some (.dK kvs)) (hf : ∀ p ∈ kvs, FlV (kV p.1) ∧ FlV p.2) : RepJ X k (d + 1) [a] H0 (.ref a) (dictText (kvs.map kvT)) := .ofK fun pins σ H s e I => by
  obtain ⟨_, hs, ws, rw', o, es, ep, ho, hx, hd, _, hp, _⟩ := dk_of I.hok (e _ _ h)
  exact ReprK.dict ho hx.1 hd hs (fun z => nomatch z) (ents_flat rw' hp hf)
end
end Ab

set_option Elab.async false
set_option linter.all false
set_option maxRecDepth 100000
set_option maxHeartbeats 4000000
/-! AbE: the law's def called by the head, no repr running around. -/
namespace Ab
open PySem PySem.Spec PyProof.Rows L2
section
variable {P : Program} {w : World} {K : PySem.W.Frag} {mg mb : Str → Option Value} {k : Nat} {f a : Addr} {fd : FuncData} {x : Str} {sp : Sp} {s1 : Shared} {us : List Value} {ns : List Int}
/-- nothing but the script is tracked -/
structure Alone (K : PySem.W.Frag) (P : Program) (w : World) (H : Hp) (a : Addr) (ns : List Int) (h : Heap) : Prop where
  only : Only H
  seq : SqL K H a (ns.map V.int)
  ok : HOk P w H h
  at_ : ∀ b u, H b = some u → b = a ∧ K.lookup a = none
theorem alone (KX : K.In s1.heap) (ha : s1.heap.get? a = some { cls := .type "list", data := .seq us.toArray }) (hi : IntsAre us ns) (hl : ns.length ≤ sizeLine) : ∃ H, Alone K P w H a ns s1.heap := by
  have rv := vals_ints hi
  have lenU := hi.length
  cases hk : K.lookup a with
  | some o =>
    have e := KX a o hk
    rw [ha] at e
    cases e
    refine ⟨fun _ => none, fun _ => .inl rfl, .inr ⟨_, us.toArray, _, hk, rfl, rfl, rfl, ?_, by simpa using rv⟩, fun b u z => ?_, fun b u z => ?_⟩
    · rw [List.size_toArray, lenU]
      exact hl
    · exact absurd (show (none : Option HO) = some u from z) nofun
    · exact absurd (show (none : Option HO) = some u from z) nofun
  | none =>
    let ob : Obj := { cls := .type "list", data := .seq us.toArray }
    have at1 : ∀ b u, (if b = a then some (HO.frz ob (.lst (ns.map V.int))) else none) = some u → b = a ∧ u = .frz ob (.lst (ns.map V.int)) := fun b u z => by
      split at z
      · rename_i q
        exact ⟨q, (Option.some.inj z).symm⟩
      · cases z
    refine ⟨fun b => if b = a then some (.frz ob (.lst (ns.map V.int))) else none, fun b => ?_, .inl (.inr ⟨ob, if_pos rfl⟩), fun b u z => ?_, fun b u z => ⟨(at1 b u z).1, hk⟩⟩
    · by_cases q : b = a
      · exact .inr ⟨ob, _, if_pos q⟩
      · exact .inl (if_neg q)
    · obtain ⟨rfl, rfl⟩ := at1 b u z
      exact ⟨ha, by rw [List.length_map]; exact hl, us, _, rv, ha⟩
theorem law_q (KX : K.In s1.heap) (hns : s1.heap.Ns mainGlobals mg) (hb : s1.heap.Ns builtinsNs mb) (hbb : ∀ y : Str, y ≠ "__name__" → mb y = bootBuiltins y) (hlim : s1.heap.NoLimit) (hg : s1.gens = #[])
    (ha : s1.heap.get? a = some { cls := .type "list", data := .seq us.toArray }) (hi : IntsAre us ns) (hl : ns.length ≤ sizeLine) (hr : Room k callerA)
    (F : ∀ base : Heap, K.In base → base.Ns mainGlobals mg → Fq true P w K mg base CX0 k f fd [x] sp) (hbind : ∀ (s : Shared) (u : Value), BindsTo s fd ⟨[u], []⟩ [(x, u)])
    (hsp : ∀ H : Hp, SqL K H a (ns.map V.int) → sp [.ref a] H (fun v _ => v = .bl true) E0) :
    codeAny (model P w) callerA (.call (.ref f) ⟨[.ref a], []⟩) (fun r s' => r = .ok (.ret (.bool true)) ∧ OldK s1.heap s'.heap ∧ s'.os = s1.os ∧ AllBare s'.gens) s1 := by
  obtain ⟨H, al⟩ := alone (P := P) (w := w) KX ha hi hl
  have out : ∀ {b : Addr} {o : Obj}, s1.heap.get? b = some o → H b = none → (hidT s1.heap H).get? b = some o := fun e n => hidT_get e n
  have dct : ∀ {b : Addr} {o : Obj} {es : Array DictEntry} {ep : Nat}, s1.heap.get? b = some o → o.data = .dict es ep → H b = none := fun {b o es ep} e d => by
    cases q : H b with
    | none => rfl
    | some u =>
      obtain ⟨rfl, _⟩ := al.at_ b u q
      rw [ha] at e
      cases e
      exact nomatch (show Data.seq us.toArray _ = Data.dict es ep from d)
  have nsK : ∀ {b : Addr} {m : Str → Option Value}, s1.heap.Ns b m → (hidT s1.heap H).Ns b m := fun ⟨o, es, ep, e, d, r⟩ => ⟨o, es, ep, out e (dct e d), d, r⟩
  have inK : K.In (hidT s1.heap H) := fun b o e => out (KX b o e) (by
    cases q : H b with
    | none => rfl
    | some u =>
      obtain ⟨rfl, z⟩ := al.at_ b u q
      rw [z] at e
      cases e)
  obtain ⟨mc, l1, l2⟩ := hlim
  have md : Mod K mg (hidT s1.heap H) := ⟨inK, nsK hns, ⟨mb, nsK hb, hbb⟩, mc, nsK l1, l2⟩
  have e0 : Env0 P w K mg (hidT s1.heap H) callerA [] s1 H := ⟨rfl, md, fun b o e => of_hidT e, Nat.le_of_eq (hidT_size _ _), trivial, fun b z => (nomatch (show b ∈ ([] : List Addr) from z)), al.ok, .of_eq hg⟩
  refine codeAny_mono ((F _ inK (nsK hns)).go callerA [] s1 H ⟨[.ref a], []⟩ [.ref a] [.ref a] _ _ (fun _ => rfl) hr e0 (hbind s1 (.ref a)) (.cons rfl .nil) (hsp H al.seq)) fun r s' h => ?_
  cases r with
  | error e => exact False.elim h
  | ok fl =>
    cases fl with
    | ret u =>
      obtain ⟨v, H', os, bare, un, hok', r', q⟩ := h
      obtain rfl : v = .bl true := q
      obtain rfl : u = Value.bool true := r'
      refine ⟨rfl, OldK.of_keep fun b o e => ?_, os, bare⟩
      rcases al.only b with z | ⟨ob, xs, z⟩
      · exact un.keep b o e z (fun y => (nomatch (show b ∈ ([] : List Addr) from y))) List.not_mem_nil
      · have e1 := (al.ok b _ z).1
        have e2 := (hok' b _ (un.frzs b ob _ z)).1
        rw [e] at e1
        cases e1
        exact e2
    | _ => exact False.elim h
end
/-- a function object has one datum -/
theorem fd_eq {K : PySem.W.Frag} {x qual x' qual' : Str} {params params' : Arguments} {body body' : List Stmt} {scope scope' : Scope} {dvs dvs' : List V} {kws kws' : List (Str × V)} {f : Addr} {fd fd' : FuncData}
    (F : FunD K x qual params body scope dvs kws f fd) (F' : FunD K x' qual' params' body' scope' dvs' kws' f fd') : fd' = fd := by
  obtain ⟨oc, od, dV, kV, doc, pm, an, cdv, ct, osl, rfl, lk, _⟩ := F.ex
  obtain ⟨oc', od', dV', kV', doc', pm', an', cdv', ct', osl', rfl, lk', _⟩ := F'.ex
  rw [lk] at lk'
  have e := Option.some.inj lk'
  injection e with _ _ e _
  injection e with e
  exact e.symm
/-- what the head leaves, from the law's def -/
theorem walk_q {l : PySem.W.OpenLaw} {n k : Nat} {q : Program} {loose : List Str} {XP : (Str → Option Value) → Heap → Prop} {YP : World → Heap → Prop} {d : DefRec} {x : Str}
    (hn : l.most = some n) (hn2 : n ≤ sizeLine) (hdf : d.params.defaults = []) (hr : Room k callerA)
    (F : ∀ (w : World) (mg : Str → Option Value) (f : Addr) (h : Heap), YP w h → h.Ns mainGlobals mg → mg d.name = some (.ref f) → ∃ (K : PySem.W.Frag) (fd : FuncData) (sp : Sp), K.In h ∧
      (∀ (s : Shared) (u : Value), BindsTo s fd ⟨[u], []⟩ [(x, u)]) ∧ (∀ (H : Hp) (a : Addr) (ns : List Int), ns.length ≤ n → SqL K H a (ns.map V.int) → sp [.ref a] H (fun v _ => v = .bl true) E0) ∧
      ∀ base : Heap, K.In base → base.Ns mainGlobals mg → Fq true l.prog w K mg base CX0 k f fd [x] sp) :
    PySem.W.WalkO q loose XP YP l.row.toRowW d [] (fun f vs => PySem.call f vs) := by
  refine Att.attach_call hn hdf fun w s0 s1 mg mb f o pm cd doc a us ns G Y ho hd hcd hmg hobj hints hlen hg => ?_
  obtain ⟨K, fd, sp, KX, hb, hsp, hF⟩ := F w mg f _ Y G.T.g hmg
  exact law_q KX G.T.g G.T.b G.T.builtins G.T.nolimit hg hobj hints (Nat.le_trans hlen hn2) hr hF hb fun H hS => hsp H a ns hlen hS
end Ab

set_option Elab.async false
set_option linter.all false
set_option maxRecDepth 100000
set_option maxHeartbeats 4000000
namespace K11
open PySem PySem.Spec PyProof.Rows L2 Ab
def top (i : Nat) : Stmt := PySem.Challenge.pw_aboveless_k11_values_judged.main.body.getD i (.Pass ⟨0, 0, 0, 0⟩)
abbrev s_is_name : Stmt := top 16
abbrev N_is_name : List Str := ["value", "letter"]
theorem sc_is_name : FnScope N_is_name ["value"] (defScope s_is_name) :=
  ⟨rfl, rfl, rfl, by decide +kernel, rfl, by decide +kernel, by decide +kernel⟩
def d_is_name : He.DefD := ⟨("is_name", none), "is_name", "is_name", defArgs s_is_name, defBody s_is_name, defScope s_is_name, [], []⟩
theorem b_is_name {K : PySem.W.Frag} : ∀ fd, FunD K d_is_name.name d_is_name.qual d_is_name.params d_is_name.body d_is_name.scope (d_is_name.dvs K) (d_is_name.kws K) (He.fAd K d_is_name.at_) fd → Bw K fd ["value"] 1 [] gPos :=
  fun fd F => bw_pos F 1 rfl (fun _ _ _ _ _ _ us hl => match us, hl with | [_], _ => rfl)
abbrev s_is_integer : Stmt := top 17
abbrev N_is_integer : List Str := ["value"]
theorem sc_is_integer : FnScope N_is_integer ["value"] (defScope s_is_integer) :=
  ⟨rfl, rfl, rfl, by decide +kernel, rfl, by decide +kernel, by decide +kernel⟩
def d_is_integer : He.DefD := ⟨("is_integer", none), "is_integer", "is_integer", defArgs s_is_integer, defBody s_is_integer, defScope s_is_integer, [], []⟩
theorem b_is_integer {K : PySem.W.Frag} : ∀ fd, FunD K d_is_integer.name d_is_integer.qual d_is_integer.params d_is_integer.body d_is_integer.scope (d_is_integer.dvs K) (d_is_integer.kws K) (He.fAd K d_is_integer.at_) fd → Bw K fd ["value"] 1 [] gPos :=
  fun fd F => bw_pos F 1 rfl (fun _ _ _ _ _ _ us hl => match us, hl with | [_], _ => rfl)
abbrev s_is_count : Stmt := top 18
abbrev N_is_count : List Str := ["value"]
theorem sc_is_count : FnScope N_is_count ["value"] (defScope s_is_count) :=
  ⟨rfl, rfl, rfl, by decide +kernel, rfl, by decide +kernel, by decide +kernel⟩
def d_is_count : He.DefD := ⟨("is_count", none), "is_count", "is_count", defArgs s_is_count, defBody s_is_count, defScope s_is_count, [], []⟩
theorem b_is_count {K : PySem.W.Frag} : ∀ fd, FunD K d_is_count.name d_is_count.qual d_is_count.params d_is_count.body d_is_count.scope (d_is_count.dvs K) (d_is_count.kws K) (He.fAd K d_is_count.at_) fd → Bw K fd ["value"] 1 [] gPos :=
  fun fd F => bw_pos F 1 rfl (fun _ _ _ _ _ _ us hl => match us, hl with | [_], _ => rfl)
abbrev s_is_value : Stmt := top 19
abbrev N_is_value : List Str := ["sort", "value", "may_be_empty"]
theorem sc_is_value : FnScope N_is_value ["sort", "value", "may_be_empty"] (defScope s_is_value) :=
  ⟨rfl, rfl, rfl, by decide +kernel, rfl, by decide +kernel, by decide +kernel⟩
def d_is_value : He.DefD := ⟨("is_value", none), "is_value", "is_value", defArgs s_is_value, defBody s_is_value, defScope s_is_value, [], [("may_be_empty", .bl false)]⟩
abbrev s_want_label : Stmt := top 21
abbrev N_want_label : List Str := ["value"]
theorem sc_want_label : FnScope N_want_label ["value"] (defScope s_want_label) :=
  ⟨rfl, rfl, rfl, by decide +kernel, rfl, by decide +kernel, by decide +kernel⟩
def d_want_label : He.DefD := ⟨("want_label", none), "want_label", "want_label", defArgs s_want_label, defBody s_want_label, defScope s_want_label, [], []⟩
theorem b_want_label {K : PySem.W.Frag} : ∀ fd, FunD K d_want_label.name d_want_label.qual d_want_label.params d_want_label.body d_want_label.scope (d_want_label.dvs K) (d_want_label.kws K) (He.fAd K d_want_label.at_) fd → Bw K fd ["value"] 1 [] gPos :=
  fun fd F => bw_pos F 1 rfl (fun _ _ _ _ _ _ us hl => match us, hl with | [_], _ => rfl)
abbrev s_marks_in_order : Stmt := top 22
abbrev N_marks_in_order : List Str := ["marks", "found", "mark"]
theorem sc_marks_in_order : FnScope N_marks_in_order ["marks"] (defScope s_marks_in_order) :=
  ⟨rfl, rfl, rfl, by decide +kernel, rfl, by decide +kernel, by decide +kernel⟩
def d_marks_in_order : He.DefD := ⟨("marks_in_order", none), "marks_in_order", "marks_in_order", defArgs s_marks_in_order, defBody s_marks_in_order, defScope s_marks_in_order, [], []⟩
theorem b_marks_in_order {K : PySem.W.Frag} : ∀ fd, FunD K d_marks_in_order.name d_marks_in_order.qual d_marks_in_order.params d_marks_in_order.body d_marks_in_order.scope (d_marks_in_order.dvs K) (d_marks_in_order.kws K) (He.fAd K d_marks_in_order.at_) fd → Bw K fd ["marks"] 1 [] gPos :=
  fun fd F => bw_pos F 1 rfl (fun _ _ _ _ _ _ us hl => match us, hl with | [_], _ => rfl)
abbrev s_Label_init : Stmt := inClass (top 23) 1
abbrev N_Label_init : List Str := ["self", "marks", "kept"]
theorem sc_Label_init : FnScope N_Label_init ["self", "marks"] (defScope s_Label_init) :=
  ⟨rfl, rfl, rfl, by decide +kernel, rfl, by decide +kernel, by decide +kernel⟩
def d_Label_init : He.DefD := ⟨("Label", some "__init__"), "__init__", "Label.__init__", defArgs s_Label_init, defBody s_Label_init, defScope s_Label_init, [], []⟩
abbrev s_Label_or : Stmt := inClass (top 23) 6
abbrev N_Label_or : List Str := ["self", "other", "found"]
theorem sc_Label_or : FnScope N_Label_or ["self", "other"] (defScope s_Label_or) :=
  ⟨rfl, rfl, rfl, by decide +kernel, rfl, by decide +kernel, by decide +kernel⟩
def d_Label_or : He.DefD := ⟨("Label", some "__or__"), "__or__", "Label.__or__", defArgs s_Label_or, defBody s_Label_or, defScope s_Label_or, [], []⟩
theorem b_Label_or {K : PySem.W.Frag} : ∀ fd, FunD K d_Label_or.name d_Label_or.qual d_Label_or.params d_Label_or.body d_Label_or.scope (d_Label_or.dvs K) (d_Label_or.kws K) (He.fAd K d_Label_or.at_) fd → Bw K fd ["self", "other"] 2 [] gPos :=
  fun fd F => bw_pos F 2 rfl (fun _ _ _ _ _ _ us hl => match us, hl with | [_, _], _ => rfl)
abbrev s_Label_and : Stmt := inClass (top 23) 7
abbrev N_Label_and : List Str := ["self", "other", "found", "mark"]
theorem sc_Label_and : FnScope N_Label_and ["self", "other"] (defScope s_Label_and) :=
  ⟨rfl, rfl, rfl, by decide +kernel, rfl, by decide +kernel, by decide +kernel⟩
def d_Label_and : He.DefD := ⟨("Label", some "__and__"), "__and__", "Label.__and__", defArgs s_Label_and, defBody s_Label_and, defScope s_Label_and, [], []⟩
theorem b_Label_and {K : PySem.W.Frag} : ∀ fd, FunD K d_Label_and.name d_Label_and.qual d_Label_and.params d_Label_and.body d_Label_and.scope (d_Label_and.dvs K) (d_Label_and.kws K) (He.fAd K d_Label_and.at_) fd → Bw K fd ["self", "other"] 2 [] gPos :=
  fun fd F => bw_pos F 2 rfl (fun _ _ _ _ _ _ us hl => match us, hl with | [_, _], _ => rfl)
abbrev s_Label_contains : Stmt := inClass (top 23) 8
abbrev N_Label_contains : List Str := ["self", "mark"]
theorem sc_Label_contains : FnScope N_Label_contains ["self", "mark"] (defScope s_Label_contains) :=
  ⟨rfl, rfl, rfl, by decide +kernel, rfl, by decide +kernel, by decide +kernel⟩
def d_Label_contains : He.DefD := ⟨("Label", some "__contains__"), "__contains__", "Label.__contains__", defArgs s_Label_contains, defBody s_Label_contains, defScope s_Label_contains, [], []⟩
theorem b_Label_contains {K : PySem.W.Frag} : ∀ fd, FunD K d_Label_contains.name d_Label_contains.qual d_Label_contains.params d_Label_contains.body d_Label_contains.scope (d_Label_contains.dvs K) (d_Label_contains.kws K) (He.fAd K d_Label_contains.at_) fd → Bw K fd ["self", "mark"] 2 [] gPos :=
  fun fd F => bw_pos F 2 rfl (fun _ _ _ _ _ _ us hl => match us, hl with | [_, _], _ => rfl)
abbrev s_Label_len : Stmt := inClass (top 23) 9
abbrev N_Label_len : List Str := ["self"]
theorem sc_Label_len : FnScope N_Label_len ["self"] (defScope s_Label_len) :=
  ⟨rfl, rfl, rfl, by decide +kernel, rfl, by decide +kernel, by decide +kernel⟩
def d_Label_len : He.DefD := ⟨("Label", some "__len__"), "__len__", "Label.__len__", defArgs s_Label_len, defBody s_Label_len, defScope s_Label_len, [], []⟩
theorem b_Label_len {K : PySem.W.Frag} : ∀ fd, FunD K d_Label_len.name d_Label_len.qual d_Label_len.params d_Label_len.body d_Label_len.scope (d_Label_len.dvs K) (d_Label_len.kws K) (He.fAd K d_Label_len.at_) fd → Bw K fd ["self"] 1 [] gPos :=
  fun fd F => bw_pos F 1 rfl (fun _ _ _ _ _ _ us hl => match us, hl with | [_], _ => rfl)
abbrev s_Label_str : Stmt := inClass (top 23) 10
abbrev N_Label_str : List Str := ["self"]
theorem sc_Label_str : FnScope N_Label_str ["self"] (defScope s_Label_str) :=
  ⟨rfl, rfl, rfl, by decide +kernel, rfl, by decide +kernel, by decide +kernel⟩
def d_Label_str : He.DefD := ⟨("Label", some "__str__"), "__str__", "Label.__str__", defArgs s_Label_str, defBody s_Label_str, defScope s_Label_str, [], []⟩
theorem b_Label_str {K : PySem.W.Frag} : ∀ fd, FunD K d_Label_str.name d_Label_str.qual d_Label_str.params d_Label_str.body d_Label_str.scope (d_Label_str.dvs K) (d_Label_str.kws K) (He.fAd K d_Label_str.at_) fd → Bw K fd ["self"] 1 [] gPos :=
  fun fd F => bw_pos F 1 rfl (fun _ _ _ _ _ _ us hl => match us, hl with | [_], _ => rfl)
abbrev s_Label_repr : Stmt := inClass (top 23) 11
abbrev N_Label_repr : List Str := ["self", "marks", "mark"]
theorem sc_Label_repr : FnScope N_Label_repr ["self"] (defScope s_Label_repr) :=
  ⟨rfl, rfl, rfl, by decide +kernel, rfl, by decide +kernel, by decide +kernel⟩
def d_Label_repr : He.DefD := ⟨("Label", some "__repr__"), "__repr__", "Label.__repr__", defArgs s_Label_repr, defBody s_Label_repr, defScope s_Label_repr, [], []⟩
theorem b_Label_repr {K : PySem.W.Frag} : ∀ fd, FunD K d_Label_repr.name d_Label_repr.qual d_Label_repr.params d_Label_repr.body d_Label_repr.scope (d_Label_repr.dvs K) (d_Label_repr.kws K) (He.fAd K d_Label_repr.at_) fd → Bw K fd ["self"] 1 [] gPos :=
  fun fd F => bw_pos F 1 rfl (fun _ _ _ _ _ _ us hl => match us, hl with | [_], _ => rfl)
abbrev s_Label_eq : Stmt := inClass (top 23) 12
abbrev N_Label_eq : List Str := ["self", "other"]
theorem sc_Label_eq : FnScope N_Label_eq ["self", "other"] (defScope s_Label_eq) :=
  ⟨rfl, rfl, rfl, by decide +kernel, rfl, by decide +kernel, by decide +kernel⟩
def d_Label_eq : He.DefD := ⟨("Label", some "__eq__"), "__eq__", "Label.__eq__", defArgs s_Label_eq, defBody s_Label_eq, defScope s_Label_eq, [], []⟩
theorem b_Label_eq {K : PySem.W.Frag} : ∀ fd, FunD K d_Label_eq.name d_Label_eq.qual d_Label_eq.params d_Label_eq.body d_Label_eq.scope (d_Label_eq.dvs K) (d_Label_eq.kws K) (He.fAd K d_Label_eq.at_) fd → Bw K fd ["self", "other"] 2 [] gPos :=
  fun fd F => bw_pos F 2 rfl (fun _ _ _ _ _ _ us hl => match us, hl with | [_, _], _ => rfl)
abbrev s_law_rng : Stmt := top 25
abbrev N_law_rng : List Str := ["_law_script", "_law_k", "_law_cell"]
theorem sc_law_rng : FnScope N_law_rng ["_law_script", "_law_k"] (defScope s_law_rng) :=
  ⟨rfl, rfl, rfl, by decide +kernel, rfl, by decide +kernel, by decide +kernel⟩
def d_law_rng : He.DefD := ⟨("_law_rng", none), "_law_rng", "_law_rng", defArgs s_law_rng, defBody s_law_rng, defScope s_law_rng, [], []⟩
theorem b_law_rng {K : PySem.W.Frag} : ∀ fd, FunD K d_law_rng.name d_law_rng.qual d_law_rng.params d_law_rng.body d_law_rng.scope (d_law_rng.dvs K) (d_law_rng.kws K) (He.fAd K d_law_rng.at_) fd → Bw K fd ["_law_script", "_law_k"] 2 [] gPos :=
  fun fd F => bw_pos F 2 rfl (fun _ _ _ _ _ _ us hl => match us, hl with | [_, _], _ => rfl)
abbrev s_law_draw : Stmt := top 26
abbrev N_law_draw : List Str := ["_law_rng_here", "_law_many", "_law_digit"]
theorem sc_law_draw : FnScope N_law_draw ["_law_rng_here", "_law_many"] (defScope s_law_draw) :=
  ⟨rfl, rfl, rfl, by decide +kernel, rfl, by decide +kernel, by decide +kernel⟩
def d_law_draw : He.DefD := ⟨("_law_draw", none), "_law_draw", "_law_draw", defArgs s_law_draw, defBody s_law_draw, defScope s_law_draw, [], []⟩
theorem b_law_draw {K : PySem.W.Frag} : ∀ fd, FunD K d_law_draw.name d_law_draw.qual d_law_draw.params d_law_draw.body d_law_draw.scope (d_law_draw.dvs K) (d_law_draw.kws K) (He.fAd K d_law_draw.at_) fd → Bw K fd ["_law_rng_here", "_law_many"] 2 [] gPos :=
  fun fd F => bw_pos F 2 rfl (fun _ _ _ _ _ _ us hl => match us, hl with | [_, _], _ => rfl)
abbrev s_law_choice : Stmt := top 27
abbrev N_law_choice : List Str := ["_law_rng_here", "_law_options"]
theorem sc_law_choice : FnScope N_law_choice ["_law_rng_here", "_law_options"] (defScope s_law_choice) :=
  ⟨rfl, rfl, rfl, by decide +kernel, rfl, by decide +kernel, by decide +kernel⟩
def d_law_choice : He.DefD := ⟨("_law_choice", none), "_law_choice", "_law_choice", defArgs s_law_choice, defBody s_law_choice, defScope s_law_choice, [], []⟩
theorem b_law_choice {K : PySem.W.Frag} : ∀ fd, FunD K d_law_choice.name d_law_choice.qual d_law_choice.params d_law_choice.body d_law_choice.scope (d_law_choice.dvs K) (d_law_choice.kws K) (He.fAd K d_law_choice.at_) fd → Bw K fd ["_law_rng_here", "_law_options"] 2 [] gPos :=
  fun fd F => bw_pos F 2 rfl (fun _ _ _ _ _ _ us hl => match us, hl with | [_, _], _ => rfl)
abbrev s_law_letters : Stmt := top 28
abbrev N_law_letters : List Str := ["_law_rng_here", "_law_many", "_law_k"]
theorem sc_law_letters : FnScope N_law_letters ["_law_rng_here", "_law_many"] (defScope s_law_letters) :=
  ⟨rfl, rfl, rfl, by decide +kernel, rfl, by decide +kernel, by decide +kernel⟩
def d_law_letters : He.DefD := ⟨("_law_letters", none), "_law_letters", "_law_letters", defArgs s_law_letters, defBody s_law_letters, defScope s_law_letters, [], []⟩
theorem b_law_letters {K : PySem.W.Frag} : ∀ fd, FunD K d_law_letters.name d_law_letters.qual d_law_letters.params d_law_letters.body d_law_letters.scope (d_law_letters.dvs K) (d_law_letters.kws K) (He.fAd K d_law_letters.at_) fd → Bw K fd ["_law_rng_here", "_law_many"] 2 [] gPos :=
  fun fd F => bw_pos F 2 rfl (fun _ _ _ _ _ _ us hl => match us, hl with | [_, _], _ => rfl)
abbrev s_law_digits : Stmt := top 29
abbrev N_law_digits : List Str := ["_law_rng_here", "_law_many", "_law_found", "_law_k"]
theorem sc_law_digits : FnScope N_law_digits ["_law_rng_here", "_law_many"] (defScope s_law_digits) :=
  ⟨rfl, rfl, rfl, by decide +kernel, rfl, by decide +kernel, by decide +kernel⟩
def d_law_digits : He.DefD := ⟨("_law_digits", none), "_law_digits", "_law_digits", defArgs s_law_digits, defBody s_law_digits, defScope s_law_digits, [], []⟩
theorem b_law_digits {K : PySem.W.Frag} : ∀ fd, FunD K d_law_digits.name d_law_digits.qual d_law_digits.params d_law_digits.body d_law_digits.scope (d_law_digits.dvs K) (d_law_digits.kws K) (He.fAd K d_law_digits.at_) fd → Bw K fd ["_law_rng_here", "_law_many"] 2 [] gPos :=
  fun fd F => bw_pos F 2 rfl (fun _ _ _ _ _ _ us hl => match us, hl with | [_, _], _ => rfl)
abbrev s_law_string : Stmt := top 30
abbrev N_law_string : List Str := ["_law_rng_here", "_law_way", "_law_word", "_law_near"]
theorem sc_law_string : FnScope N_law_string ["_law_rng_here"] (defScope s_law_string) :=
  ⟨rfl, rfl, rfl, by decide +kernel, rfl, by decide +kernel, by decide +kernel⟩
def d_law_string : He.DefD := ⟨("_law_string", none), "_law_string", "_law_string", defArgs s_law_string, defBody s_law_string, defScope s_law_string, [], []⟩
theorem b_law_string {K : PySem.W.Frag} : ∀ fd, FunD K d_law_string.name d_law_string.qual d_law_string.params d_law_string.body d_law_string.scope (d_law_string.dvs K) (d_law_string.kws K) (He.fAd K d_law_string.at_) fd → Bw K fd ["_law_rng_here"] 1 [] gPos :=
  fun fd F => bw_pos F 1 rfl (fun _ _ _ _ _ _ us hl => match us, hl with | [_], _ => rfl)
abbrev s_law_number : Stmt := top 31
abbrev N_law_number : List Str := ["_law_rng_here", "_law_far", "_law_edge"]
theorem sc_law_number : FnScope N_law_number ["_law_rng_here"] (defScope s_law_number) :=
  ⟨rfl, rfl, rfl, by decide +kernel, rfl, by decide +kernel, by decide +kernel⟩
def d_law_number : He.DefD := ⟨("_law_number", none), "_law_number", "_law_number", defArgs s_law_number, defBody s_law_number, defScope s_law_number, [], []⟩
theorem b_law_number {K : PySem.W.Frag} : ∀ fd, FunD K d_law_number.name d_law_number.qual d_law_number.params d_law_number.body d_law_number.scope (d_law_number.dvs K) (d_law_number.kws K) (He.fAd K d_law_number.at_) fd → Bw K fd ["_law_rng_here"] 1 [] gPos :=
  fun fd F => bw_pos F 1 rfl (fun _ _ _ _ _ _ us hl => match us, hl with | [_], _ => rfl)
abbrev s_law_thing : Stmt := top 32
abbrev N_law_thing : List Str := ["_law_rng_here", "_law_way", "_law_word"]
theorem sc_law_thing : FnScope N_law_thing ["_law_rng_here"] (defScope s_law_thing) :=
  ⟨rfl, rfl, rfl, by decide +kernel, rfl, by decide +kernel, by decide +kernel⟩
def d_law_thing : He.DefD := ⟨("_law_thing", none), "_law_thing", "_law_thing", defArgs s_law_thing, defBody s_law_thing, defScope s_law_thing, [], []⟩
theorem b_law_thing {K : PySem.W.Frag} : ∀ fd, FunD K d_law_thing.name d_law_thing.qual d_law_thing.params d_law_thing.body d_law_thing.scope (d_law_thing.dvs K) (d_law_thing.kws K) (He.fAd K d_law_thing.at_) fd → Bw K fd ["_law_rng_here"] 1 [] gPos :=
  fun fd F => bw_pos F 1 rfl (fun _ _ _ _ _ _ us hl => match us, hl with | [_], _ => rfl)
abbrev s_law_no_sort : Stmt := top 33
abbrev N_law_no_sort : List Str := ["_law_rng_here"]
theorem sc_law_no_sort : FnScope N_law_no_sort ["_law_rng_here"] (defScope s_law_no_sort) :=
  ⟨rfl, rfl, rfl, by decide +kernel, rfl, by decide +kernel, by decide +kernel⟩
def d_law_no_sort : He.DefD := ⟨("_law_no_sort", none), "_law_no_sort", "_law_no_sort", defArgs s_law_no_sort, defBody s_law_no_sort, defScope s_law_no_sort, [], []⟩
theorem b_law_no_sort {K : PySem.W.Frag} : ∀ fd, FunD K d_law_no_sort.name d_law_no_sort.qual d_law_no_sort.params d_law_no_sort.body d_law_no_sort.scope (d_law_no_sort.dvs K) (d_law_no_sort.kws K) (He.fAd K d_law_no_sort.at_) fd → Bw K fd ["_law_rng_here"] 1 [] gPos :=
  fun fd F => bw_pos F 1 rfl (fun _ _ _ _ _ _ us hl => match us, hl with | [_], _ => rfl)
abbrev s_law_is_whole : Stmt := top 34
abbrev N_law_is_whole : List Str := ["_law_thing_here"]
theorem sc_law_is_whole : FnScope N_law_is_whole ["_law_thing_here"] (defScope s_law_is_whole) :=
  ⟨rfl, rfl, rfl, by decide +kernel, rfl, by decide +kernel, by decide +kernel⟩
def d_law_is_whole : He.DefD := ⟨("_law_is_whole", none), "_law_is_whole", "_law_is_whole", defArgs s_law_is_whole, defBody s_law_is_whole, defScope s_law_is_whole, [], []⟩
theorem b_law_is_whole {K : PySem.W.Frag} : ∀ fd, FunD K d_law_is_whole.name d_law_is_whole.qual d_law_is_whole.params d_law_is_whole.body d_law_is_whole.scope (d_law_is_whole.dvs K) (d_law_is_whole.kws K) (He.fAd K d_law_is_whole.at_) fd → Bw K fd ["_law_thing_here"] 1 [] gPos :=
  fun fd F => bw_pos F 1 rfl (fun _ _ _ _ _ _ us hl => match us, hl with | [_], _ => rfl)
abbrev s_law_is_word : Stmt := top 35
abbrev N_law_is_word : List Str := ["_law_thing_here", "_law_letters_here", "_law_sign"]
theorem sc_law_is_word : FnScope N_law_is_word ["_law_thing_here"] (defScope s_law_is_word) :=
  ⟨rfl, rfl, rfl, by decide +kernel, rfl, by decide +kernel, by decide +kernel⟩
def d_law_is_word : He.DefD := ⟨("_law_is_word", none), "_law_is_word", "_law_is_word", defArgs s_law_is_word, defBody s_law_is_word, defScope s_law_is_word, [], []⟩
theorem b_law_is_word {K : PySem.W.Frag} : ∀ fd, FunD K d_law_is_word.name d_law_is_word.qual d_law_is_word.params d_law_is_word.body d_law_is_word.scope (d_law_is_word.dvs K) (d_law_is_word.kws K) (He.fAd K d_law_is_word.at_) fd → Bw K fd ["_law_thing_here"] 1 [] gPos :=
  fun fd F => bw_pos F 1 rfl (fun _ _ _ _ _ _ us hl => match us, hl with | [_], _ => rfl)
abbrev s_law_fits : Stmt := top 36
abbrev N_law_fits : List Str := ["_law_kind", "_law_thing_here"]
theorem sc_law_fits : FnScope N_law_fits ["_law_kind", "_law_thing_here"] (defScope s_law_fits) :=
  ⟨rfl, rfl, rfl, by decide +kernel, rfl, by decide +kernel, by decide +kernel⟩
def d_law_fits : He.DefD := ⟨("_law_fits", none), "_law_fits", "_law_fits", defArgs s_law_fits, defBody s_law_fits, defScope s_law_fits, [], []⟩
theorem b_law_fits {K : PySem.W.Frag} : ∀ fd, FunD K d_law_fits.name d_law_fits.qual d_law_fits.params d_law_fits.body d_law_fits.scope (d_law_fits.dvs K) (d_law_fits.kws K) (He.fAd K d_law_fits.at_) fd → Bw K fd ["_law_kind", "_law_thing_here"] 2 [] gPos :=
  fun fd F => bw_pos F 2 rfl (fun _ _ _ _ _ _ us hl => match us, hl with | [_, _], _ => rfl)
abbrev s_law_told : Stmt := top 37
abbrev N_law_told : List Str := ["_law_thing_here", "_law_strange", "_law_told_here", "_law_kind"]
theorem sc_law_told : FnScope N_law_told ["_law_thing_here", "_law_strange"] (defScope s_law_told) :=
  ⟨rfl, rfl, rfl, by decide +kernel, rfl, by decide +kernel, by decide +kernel⟩
def d_law_told : He.DefD := ⟨("_law_told", none), "_law_told", "_law_told", defArgs s_law_told, defBody s_law_told, defScope s_law_told, [], []⟩
theorem b_law_told {K : PySem.W.Frag} : ∀ fd, FunD K d_law_told.name d_law_told.qual d_law_told.params d_law_told.body d_law_told.scope (d_law_told.dvs K) (d_law_told.kws K) (He.fAd K d_law_told.at_) fd → Bw K fd ["_law_thing_here", "_law_strange"] 2 [] gPos :=
  fun fd F => bw_pos F 2 rfl (fun _ _ _ _ _ _ us hl => match us, hl with | [_, _], _ => rfl)
abbrev s_law_due : Stmt := top 38
abbrev N_law_due : List Str := ["_law_thing_here", "_law_due_here", "_law_kind"]
theorem sc_law_due : FnScope N_law_due ["_law_thing_here"] (defScope s_law_due) :=
  ⟨rfl, rfl, rfl, by decide +kernel, rfl, by decide +kernel, by decide +kernel⟩
def d_law_due : He.DefD := ⟨("_law_due", none), "_law_due", "_law_due", defArgs s_law_due, defBody s_law_due, defScope s_law_due, [], []⟩
theorem b_law_due {K : PySem.W.Frag} : ∀ fd, FunD K d_law_due.name d_law_due.qual d_law_due.params d_law_due.body d_law_due.scope (d_law_due.dvs K) (d_law_due.kws K) (He.fAd K d_law_due.at_) fd → Bw K fd ["_law_thing_here"] 1 [] gPos :=
  fun fd F => bw_pos F 1 rfl (fun _ _ _ _ _ _ us hl => match us, hl with | [_], _ => rfl)
abbrev s_law_right : Stmt := top 39
abbrev N_law_right : List Str := ["_law_rng_here", "_law_things", "_law_thing_here", "_law_pairs", "_law_turn", "_law_strange", "_law_shown", "_law_k"]
theorem sc_law_right : FnScope N_law_right ["_law_rng_here"] (defScope s_law_right) :=
  ⟨rfl, rfl, rfl, by decide +kernel, rfl, by decide +kernel, by decide +kernel⟩
def d_law_right : He.DefD := ⟨("_law_right", none), "_law_right", "_law_right", defArgs s_law_right, defBody s_law_right, defScope s_law_right, [], []⟩
theorem b_law_right {K : PySem.W.Frag} : ∀ fd, FunD K d_law_right.name d_law_right.qual d_law_right.params d_law_right.body d_law_right.scope (d_law_right.dvs K) (d_law_right.kws K) (He.fAd K d_law_right.at_) fd → Bw K fd ["_law_rng_here"] 1 [] gPos :=
  fun fd F => bw_pos F 1 rfl (fun _ _ _ _ _ _ us hl => match us, hl with | [_], _ => rfl)
abbrev s_law : Stmt := top 40
abbrev N_law : List Str := ["_law_script", "_law_k"]
theorem sc_law : FnScope N_law ["_law_script"] (defScope s_law) :=
  ⟨rfl, rfl, rfl, by decide +kernel, rfl, by decide +kernel, by decide +kernel⟩
def d_law : He.DefD := ⟨("law", none), "law", "law", defArgs s_law, defBody s_law, defScope s_law, [], []⟩
theorem b_law {K : PySem.W.Frag} : ∀ fd, FunD K d_law.name d_law.qual d_law.params d_law.body d_law.scope (d_law.dvs K) (d_law.kws K) (He.fAd K d_law.at_) fd → Bw K fd ["_law_script"] 1 [] gPos :=
  fun fd F => bw_pos F 1 rfl (fun _ _ _ _ _ _ us hl => match us, hl with | [_], _ => rfl)
def fa : List He.Fa := ([.glo "_wall", .glo "InvalidError", .glo "InvalidName", .glo "InvalidLabel", .glo "LimitError", .glo "TooMany", .str "INT" "int", .str "TEXT" "text", .str "TRUTH" "truth", .glo "SORTS", .str "LETTERS" "abcdefghijklmnopqrstuvwxyz", .str "QUOTE" "'"] : List He.Fa) ++ ([.int "LONGEST_NAME" 8, .int "LONGEST_STRING" 60, .glo "is_name", .glo "is_integer", .glo "is_count", .glo "is_value", .glo "want_label", .glo "marks_in_order", .glo "Label", .glo "_law_rng", .glo "_law_draw", .glo "_law_choice"] : List He.Fa) ++ ([.glo "_law_letters", .glo "_law_digits", .glo "_law_string", .glo "_law_number", .glo "_law_thing", .glo "_law_no_sort", .glo "_law_is_whole", .glo "_law_is_word", .glo "_law_fits", .glo "_law_told", .glo "_law_due", .glo "_law_right"] : List He.Fa) ++ ([.glo "law", .free "ValueError", .free "ArithmeticError", .free "classmethod", .free "property", .free "all", .free "isinstance", .free "bool", .free "sorted", .free "range", .free "int", .free "tuple"] : List He.Fa) ++ ([.free "len", .free "abs", .free "max", .free "divmod", .free "str", .free "repr", .free "super", .free "min", .cls "Label", .mkr "Label", .meth "Label" "__repr__", .noat "Label" "own_marks"] : List He.Fa)
def fn : List He.DefD := ([d_is_name, d_is_integer, d_is_count, d_is_value, d_want_label, d_marks_in_order, d_Label_init, d_Label_or, d_Label_and, d_Label_contains, d_Label_len, d_Label_str] : List He.DefD) ++ ([d_Label_repr, d_Label_eq, d_law_rng, d_law_draw, d_law_choice, d_law_letters, d_law_digits, d_law_string, d_law_number, d_law_thing, d_law_no_sort, d_law_is_whole] : List He.DefD) ++ ([d_law_is_word, d_law_fits, d_law_told, d_law_due, d_law_right, d_law] : List He.DefD)
def exB (K : PySem.W.Frag) : Bool := He.tupB K "SORTS" [.str "int", .str "text", .str "truth"] && (insB K "Label" && (kitF K "Label" "int" && (kitF K "Label" "str" && (kitF K "Label" "bool" && (readB K "Label" && cvalB K "Label" "MOST" 4)))))
abbrev Txt (K : PySem.W.Frag) (mg : Str → Option Value) : Prop := Tx fa fn exB K mg
end K11

set_option Elab.async false
set_option linter.all false
set_option maxRecDepth 100000
set_option maxHeartbeats 4000000
/-! the plain law -/
namespace K11
open PySem L2 Ab
def isInt : V → Bool
  | .int _ => true
  | _ => false
def isStr : V → Bool
  | .str _ => true
  | _ => false
def isBl : V → Bool
  | .bl _ => true
  | _ => false
abbrev lets : Str := "abcdefghijklmnopqrstuvwxyz"
def isNm : V → Bool
  | .str z => decide (1 ≤ (cs z).length) && (decide ((cs z).length ≤ 8) && (cs z).all fun c => decide (c ∈ cs lets))
  | _ => false
def isCt : V → Bool
  | .int i => decide (0 ≤ i)
  | _ => false
def fitI (m : Bool) : V → Bool
  | .non => m
  | .int i => decide ((if i < 0 then -i else i) < 10 ^ 30)
  | _ => false
def fitT (m : Bool) : V → Bool
  | .non => m
  | .str z => decide ((cs z).length ≤ 60) && !decide (39 ∈ cs z)
  | _ => false
def fitB (m : Bool) : V → Bool
  | .non => m
  | .bl _ => true
  | _ => false
def isV (s v : V) (m : Bool) : Bool := if s = .str "int" then fitI m v else if s = .str "text" then fitT m v else if s = .str "truth" then fitB m v else false
theorem isV_int (v : V) (m : Bool) : isV (.str "int") v m = fitI m v := if_pos rfl
theorem isV_text (v : V) (m : Bool) : isV (.str "text") v m = fitT m v := by
  unfold isV
  rw [if_neg (by decide +kernel), if_pos rfl]
theorem isV_truth (v : V) (m : Bool) : isV (.str "truth") v m = fitB m v := by
  unfold isV
  rw [if_neg (by decide +kernel), if_neg (by decide +kernel), if_pos rfl]
theorem isV_no (s v : V) (m : Bool) (h : s ≠ .str "int" ∧ s ≠ .str "text" ∧ s ≠ .str "truth") : isV s v m = false := by
  unfold isV
  rw [if_neg h.1, if_neg h.2.1, if_neg h.2.2]
/-- a value whose kind is known -/
def Ty (K : PySem.W.Frag) (H : Hp) : V → Prop
  | .non => True
  | .bl _ => True
  | .int _ => True
  | .str z => (cs z).length ≤ 1000
  | .ref a => ∃ t, TyX K H (.ref a) t ∧ PySem.W.kitOne K t (.type "int") = some false ∧ PySem.W.kitOne K t (.type "str") = some false ∧ PySem.W.kitOne K t (.type "bool") = some false
  | _ => False
section
variable {K : PySem.W.Frag} {H : Hp} {v : V} {Q : VK}
theorem is_int (h : Ty K H v) (q : Q (.bl (isInt v || isBl v)) H) : rIsi K [v, .ty "int"] H Q := by
  cases v with
  | non => exact ⟨_, _, _, _, false, rfl, .ty _, .base .non, kit_ty (show kitB "NoneType" "int" = some false by decide +kernel), q⟩
  | bl b => exact ⟨_, _, _, _, true, rfl, .ty _, .base (.bl b), kit_ty (show kitB "bool" "int" = some true by decide +kernel), q⟩
  | int i => exact ⟨_, _, _, _, true, rfl, .ty _, .base (.int i), kit_ty (show kitB "int" "int" = some true by decide +kernel), q⟩
  | str z => exact ⟨_, _, _, _, false, rfl, .ty _, .base (.str z), kit_ty (show kitB "str" "int" = some false by decide +kernel), q⟩
  | ref a => obtain ⟨t, h1, h2, h3, h4⟩ := h; exact ⟨_, _, _, _, _, rfl, .ty _, h1, h2, q⟩
  | byt _ => exact h.elim
  | flt _ => exact h.elim
  | ty _ => exact h.elim
theorem is_str (h : Ty K H v) (q : Q (.bl (isStr v)) H) : rIsi K [v, .ty "str"] H Q := by
  cases v with
  | non => exact ⟨_, _, _, _, false, rfl, .ty _, .base .non, kit_ty (show kitB "NoneType" "str" = some false by decide +kernel), q⟩
  | bl b => exact ⟨_, _, _, _, false, rfl, .ty _, .base (.bl b), kit_ty (show kitB "bool" "str" = some false by decide +kernel), q⟩
  | int i => exact ⟨_, _, _, _, false, rfl, .ty _, .base (.int i), kit_ty (show kitB "int" "str" = some false by decide +kernel), q⟩
  | str z => exact ⟨_, _, _, _, true, rfl, .ty _, .base (.str z), kit_ty (show kitB "str" "str" = some true by decide +kernel), q⟩
  | ref a => obtain ⟨t, h1, h2, h3, h4⟩ := h; exact ⟨_, _, _, _, _, rfl, .ty _, h1, h3, q⟩
  | byt _ => exact h.elim
  | flt _ => exact h.elim
  | ty _ => exact h.elim
theorem is_bool (h : Ty K H v) (q : Q (.bl (isBl v)) H) : rIsi K [v, .ty "bool"] H Q := by
  cases v with
  | non => exact ⟨_, _, _, _, false, rfl, .ty _, .base .non, kit_ty (show kitB "NoneType" "bool" = some false by decide +kernel), q⟩
  | bl b => exact ⟨_, _, _, _, true, rfl, .ty _, .base (.bl b), kit_ty (show kitB "bool" "bool" = some true by decide +kernel), q⟩
  | int i => exact ⟨_, _, _, _, false, rfl, .ty _, .base (.int i), kit_ty (show kitB "int" "bool" = some false by decide +kernel), q⟩
  | str z => exact ⟨_, _, _, _, false, rfl, .ty _, .base (.str z), kit_ty (show kitB "str" "bool" = some false by decide +kernel), q⟩
  | ref a => obtain ⟨t, h1, h2, h3, h4⟩ := h; exact ⟨_, _, _, _, _, rfl, .ty _, h1, h4, q⟩
  | byt _ => exact h.elim
  | flt _ => exact h.elim
  | ty _ => exact h.elim
end
/-- [c in S for c in z] -/
theorem lc_inS {z S : Str} {j : Nat} {σ : L2.St} {H : Hp} {Q : VK} (hz : (cs z).length ≤ 1000) (hw : ∀ x, wipe ((wipe σ [j]).set j (some x)) [j] = wipe σ [j]) (hj : ∀ x, ((wipe σ [j]).set j (some x))[j]? = some (some x))
    (done : ∀ D H', H D = none → Ex H H' → H' D = some (.lst ((cs z).map fun c => .bl (decide (c ∈ cs S)))) → Q (.ref D) H') :
    LcF (Its z) (gName j) tYes (tOp (fun x y H Q => ∃ c, x = V.str { cps := #[c] } ∧ ∃ x, y = V.str x ∧ Q (V.bl (decide (c ∈ x.cps.toList))) H) (tVar j) (tC (V.str S))) [j] σ H Q := by
  have lz : z.cps.size = (cs z).length := by simp
  refine lc_val walk_str (fun _ _ => trivial) (by rw [lz]; omega) (fun i => .bl (decide ((cs z).getD i 0 ∈ cs S))) (fun i x H' H2 hi e hY Qn k => ?_) fun D H' hD e hl => done D H' hD e ?_
  · obtain ⟨rfl, c, hc, rfl⟩ := hY
    refine ⟨hw _, _, hj _, c, rfl, S, rfl, ?_⟩
    have e : (cs z).getD i 0 = c := by
      rw [List.getD_eq_getElem?_getD]
      have : (cs z)[i]? = some c := by simpa using hc
      rw [this]; rfl
    rw [← e]
    exact k _ (Same.refl _)
  · rw [hl]
    congr 2
    apply List.ext_getElem?
    intro i
    rw [List.getElem?_map, List.getElem?_map, lz]
    by_cases hi : i < (cs z).length
    · have h1 : (cs z)[i]? = some (cs z)[i] := List.getElem?_eq_getElem hi
      rw [List.getElem?_range hi, h1, Option.map_some, Option.map_some, List.getD_eq_getElem?_getD, h1]
      rfl
    · rw [List.getElem?_eq_none (by rw [List.length_range]; omega), List.getElem?_eq_none (by omega)]
      rfl
theorem lc_inV {z S : Str} {j l : Nat} {σ : L2.St} {H : Hp} {Q : VK} (hz : (cs z).length ≤ 1000) (hw : ∀ x, wipe ((wipe σ [j]).set j (some x)) [j] = wipe σ [j]) (hj : ∀ x, ((wipe σ [j]).set j (some x))[j]? = some (some x))
    (hl : ∀ x, ((wipe σ [j]).set j (some x))[l]? = some (some (.str S)))
    (done : ∀ D H', H D = none → Ex H H' → H' D = some (.lst ((cs z).map fun c => .bl (decide (c ∈ cs S)))) → Q (.ref D) H') :
    LcF (Its z) (gName j) tYes (tOp (fun x y H Q => ∃ c, x = V.str { cps := #[c] } ∧ ∃ x, y = V.str x ∧ Q (V.bl (decide (c ∈ x.cps.toList))) H) (tVar j) (tVar l)) [j] σ H Q := by
  have lz : z.cps.size = (cs z).length := by simp
  refine lc_val walk_str (fun _ _ => trivial) (by rw [lz]; omega) (fun i => .bl (decide ((cs z).getD i 0 ∈ cs S))) (fun i x H' H2 hi e hY Qn k => ?_) fun D H' hD e hl => done D H' hD e ?_
  · obtain ⟨rfl, c, hc, rfl⟩ := hY
    refine ⟨hw _, _, hj _, _, hl _, c, rfl, S, rfl, ?_⟩
    have e : (cs z).getD i 0 = c := by
      rw [List.getD_eq_getElem?_getD]
      have : (cs z)[i]? = some c := by simpa using hc
      rw [this]; rfl
    rw [← e]
    exact k _ (Same.refl _)
  · rw [hl]
    congr 2
    apply List.ext_getElem?
    intro i
    rw [List.getElem?_map, List.getElem?_map, lz]
    by_cases hi : i < (cs z).length
    · have h1 : (cs z)[i]? = some (cs z)[i] := List.getElem?_eq_getElem hi
      rw [List.getElem?_range hi, h1, Option.map_some, Option.map_some, List.getD_eq_getElem?_getD, h1]
      rfl
    · rw [List.getElem?_eq_none (by rw [List.length_range]; omega), List.getElem?_eq_none (by omega)]
      rfl
/-! ### what the predicates promise -/
def spB (K : PySem.W.Frag) (f : V → Bool) : Sp := fun vs H Q _ => ∃ v, vs = [v] ∧ Ty K H v ∧ ∀ H', Ex H H' → Q (.bl (f v)) H'
def spV (K : PySem.W.Frag) : Sp := fun vs H Q _ => ∃ s v m, vs = [s, v, .bl m] ∧ Ty K H s ∧ Ty K H v ∧ ∀ H', Ex H H' → Q (.bl (isV s v m)) H'
def noSort (s : V) : Prop := s ≠ .str "int" ∧ s ≠ .str "text" ∧ s ≠ .str "truth"
def part (k : Str) (v : V) : List Bool := [isV (.str k) v false, isV (.str k) v false, isV (.str k) v true]
def dueL (v : V) : List Bool := [isNm v, isInt v, isCt v, isNm v, isInt v, isCt v] ++ (part "int" v ++ (part "text" v ++ (part "truth" v ++ [false, false, false, false])))
def spTold (K : PySem.W.Frag) : Sp := fun vs H Q _ => ∃ v s, vs = [v, s] ∧ (∀ H', Ex H H' → Ty K H' v) ∧ (∀ H', Ex H H' → Ty K H' s) ∧ noSort s ∧ ∀ D H', H D = none → Ex H H' → H' D = some (.lst ((dueL v).map V.bl)) → Q (.ref D) H'
def spDue (K : PySem.W.Frag) : Sp := fun vs H Q _ => ∃ v, vs = [v] ∧ (∀ H', Ex H H' → Ty K H' v) ∧ ∀ D H', H D = none → Ex H H' → H' D = some (.lst ((dueL v).map V.bl)) → Q (.ref D) H'
def spF (K : PySem.W.Frag) : Sp := fun vs H Q _ => ∃ s v, vs = [.str s, v] ∧ (s = "int" ∨ s = "text" ∨ s = "truth") ∧ Ty K H v ∧ ∀ H', Ex H H' → Q (.bl (isV (.str s) v false)) H'
end K11

set_option Elab.async false
set_option linter.all false
set_option maxRecDepth 100000
set_option maxHeartbeats 4000000
namespace K11
open PySem PySem.Spec PyProof.Rows L2 Ab
local macro_rules | `(tactic| walk_at "rd") => `(tactic| simp only [start_eq, List.map_cons, List.map_nil, List.length_cons, List.length_nil, List.replicate_succ, List.replicate_zero, List.cons_append, List.nil_append, Nat.reduceSub, Nat.reduceAdd, Nat.zero_add,
  tSeq, tAsg, tIf, tTest, tOp, tVar, tCB, tCons, tNil, tC, gName, tRet, tLst, tTup, tIfS, tDrop, tB, tAnd, tOr, tNot, tAndV, tOrV, tNotV, tUn, tNext, tNever, gTup, gSub, gCons, gNil, rSetL, tPar, rCat, rRep, rAppend, rAll, rAny, tM1, tBM, tBM0, tDisp, tPairs, rIn, tChain, tPart, tFld, tFmt, tJs, rRepS, tFor_eq, tLc_eq, iRng1, iRng2, iList, iTup, iStr, rI0, rI, rU, rIxL, rIxT, rIxS, tO, gPos, StX.tMakeR, tDNewK, sFld, ClX.tCVal, rSortedS, rEq, rNe, scal_ii, scal_ss, scal_bb, scal_nn, scal_is, scal_si, cx_K, cx_Kn,
  V.int.injEq, V.ref.injEq, V.str.injEq, V.bl.injEq, List.cons.injEq, Bool.not_eq_true', decide_eq_true_eq, decide_eq_false_iff_not, if_true, if_false, Bool.not_true, Bool.not_false, Bool.false_eq_true, not_true_eq_false, not_false_eq_true, and_assoc, and_true, true_and, exists_eq_left', exists_eq_left, exists_and_left, reduceCtorEq, false_and, and_false, exists_false, or_false, false_or,
  List.getElem?_cons_zero, List.getElem?_cons_succ, Option.some.injEq, List.set_cons_zero, List.set_cons_succ])
local macro_rules | `(tactic| walk_at "rk") => `(tactic| simp only [start_eq, List.map_cons, List.map_nil, List.length_cons, List.length_nil, List.replicate_succ, List.replicate_zero, List.cons_append, List.nil_append, Nat.reduceSub, Nat.reduceAdd, Nat.zero_add,
  tSeq, tAsg, tTest, tOp, tVar, tCB, tCons, tNil, tC, gName, tRet, tLst, tTup, tIfS, tDrop, tB, tAnd, tOr, tNot, tNotV, tUn, tNext, tNever, gTup, gSub, gCons, gNil, rSetL, tPar, rCat, rRep, rAppend, rAll, rAny, tM1, tBM, tBM0, tDisp, tPairs, rIn, tChain, tPart, tFld, tFmt, tJs, rRepS, tFor_eq, tLc_eq, iRng1, iRng2, iList, iTup, iStr, rI0, rI, rU, rIxL, rIxT, rIxS, tO, gPos, StX.tMakeR, tDNewK, sFld, ClX.tCVal, rSortedS, rEq, rNe, scal_ii, scal_ss, scal_bb, scal_nn, scal_is, scal_si, cx_K, cx_Kn,
  V.int.injEq, V.ref.injEq, V.str.injEq, V.bl.injEq, List.cons.injEq, Bool.not_eq_true', decide_eq_true_eq, decide_eq_false_iff_not, if_true, if_false, Bool.not_true, Bool.not_false, Bool.false_eq_true, not_true_eq_false, not_false_eq_true, and_assoc, and_true, true_and, exists_eq_left', exists_eq_left, exists_and_left, reduceCtorEq, false_and, and_false, exists_false, or_false, false_or,
  List.getElem?_cons_zero, List.getElem?_cons_succ, Option.some.injEq, List.set_cons_zero, List.set_cons_succ])
section
variable {P : Program} {w : World} {K : PySem.W.Frag} {mg : Str → Option Value} {base : Heap}
theorem ok_law_rng (T : Txt K mg) : Fo false P w K mg base CX0 1 d_law_rng ["_law_script", "_law_k"] (spRng K) := by
  obtain ⟨fd, F⟩ := T.dfn 14 (d := d_law_rng)
  refine ⟨fd, Fq.mk' F sc_law_rng (fun vs H Q E h => ?_) (fun cdv A outer s H vs Q E hg hr h => ?_), F⟩
  · obtain ⟨a, ns, k, rfl, _⟩ := h
    rfl
  obtain ⟨a, ns, k, rfl, hS, k0, k1, hQ⟩ := h
  obtain ⟨k, rfl⟩ := Int.eq_ofNat_of_zero_le k0
  refine ⟨_, (PSs.nox (pss_cons (ps_set (i := 2) sc_law_rng.nd rfl (Or.inl rfl) (pe_ifExp (pt_cmpR op_lt (pv 1) (pe_callB call_len_seq rfl (T.free 48) (by decide +kernel) (pa_cons (pv 0) pa_nil)) (nomark _)) (pe_callB call_abs rfl (T.free 49) (by decide +kernel) (pa_cons (pe_ix ix_list (pv 0) (pv 1) (fun _ _ => rfl)) pa_nil)) pe_int))
      (pss_one (ps_ret (pe_lst (pa_cons (pe_callB (call_max2 rfl) rfl (T.free 50) (by decide +kernel) (pa_cons pe_int (pa_cons (pe_op op_sub (pv 2) (pe_op op_pow pe_int pe_int)) pa_nil))) (pa_cons (pe_op op_add (pe_op op_mod (pe_callTy call_int1 rfl (T.free 46) (by decide +kernel) (pa_cons (pe_op op_pow (pe_op op_add (pe_op op_add (pe_op op_mod (pe_callTy call_int1 rfl (T.free 46) (by decide +kernel) (pa_cons (pv 2) pa_nil)) pe_int) (pe_op op_mul pe_int (pv 1))) pe_int) pe_int) pa_nil)) pe_int) pe_int) pa_nil))))))), ?_⟩
  walk_at "rd"
  refine ⟨_, Or.inl hS, ?_⟩
  have fin : ∀ (c x : Int), 0 ≤ c → ∀ p, H p = none → Q (V.ref p) (upd H p (.lst [.int x, .int (c % 2147483477 + 1)])) := fun c x hc p hp =>
    hQ p _ hp (Ex.new hp) ⟨_, _, upd_same, by omega, by omega⟩
  have hm : CMul 4127 k := Or.inl ⟨by decide, by decide⟩
  have hsz : 2 ≤ sizeLine := by decide
  have sq : ∀ z : Int, 0 ≤ z ^ Int.toNat 2 := fun z => by
    have e : Int.toNat 2 = 2 := rfl
    rw [e, Int.pow_succ, Int.pow_succ, Int.pow_zero, Int.one_mul]
    rcases Int.le_total 0 z with h | h
    · exact Int.mul_nonneg h h
    · exact Int.mul_nonneg_of_nonpos_of_nonpos h h
  refine ite2 (fun hlt => ?_) (fun _ => ?_)
  · have hl : k < ns.length := by
      have h1 : (k : Int) < ((List.map V.int ns).length : Int) := hlt
      rw [List.length_map] at h1
      omega
    refine ⟨_, hS, .int (ns[k]), ?_, _, rfl, ⟨by decide, by decide, by decide⟩, by decide, hm, ⟨by decide, by decide, ?_⟩, by decide, hsz, ?_⟩
    · refine atI_nat ?_
      simp [hl]
    · have h1 := Int.emod_nonneg (if ns[k] < 0 then -ns[k] else ns[k]) (show (2147483549 : Int) ≠ 0 by decide)
      have h2 := Int.emod_lt_of_pos (if ns[k] < 0 then -ns[k] else ns[k]) (show (0 : Int) < 2147483549 by decide)
      omega
    · exact fin _ _ (sq _)
  · refine ⟨⟨by decide, by decide, by decide⟩, by decide, hm, ⟨by decide, by decide, by omega⟩, by decide, hsz, ?_⟩
    exact fin _ _ (sq _)
theorem ok_law_draw (T : Txt K mg) : Fo false P w K mg base CX0 1 d_law_draw ["_law_rng_here", "_law_many"] spDraw := by
  obtain ⟨fd, F⟩ := T.dfn 15 (d := d_law_draw)
  refine ⟨fd, Fq.mk' F sc_law_draw (fun vs H Q E h => ?_) (fun cdv A outer s H vs Q E hg hr h => ?_), F⟩
  · obtain ⟨r, m, rfl, _⟩ := h
    rfl
  obtain ⟨r, m, rfl, ⟨a, b, hR, b0, b1⟩, m0, m1, hQ⟩ := h
  refine ⟨_, (PSs.nox (pss_cons (ps_if (pt_cmpR op_gt (pe_ix ix_list (pv 0) pe_int (fun _ _ => rfl)) pe_int (nomark _)) (pss_cons (ps_asg (pe_callB call_divmod rfl (T.free 51) (by decide +kernel) (pa_cons (pe_ix ix_list (pv 0) pe_int (fun _ _ => rfl)) (pa_cons (pv 1) pa_nil))) (pg_tup (n := 2) rfl (pgs_cons (pg_sub (pv 0) pe_int set_list) (pgs_cons (pg_name (i := 2) sc_law_draw.nd rfl (Or.inl rfl)) pgs_nil))))
      (pss_one (ps_ret (pv 2)))) pss_nil)
      (pss_cons (ps_asg (pe_op op_mod (pe_callTy call_int1 rfl (T.free 46) (by decide +kernel) (pa_cons (pe_op op_add (pe_op op_mul (pe_ix ix_list (pv 0) pe_int (fun _ _ => rfl)) pe_int) pe_int) pa_nil)) pe_int) (pg_sub (pv 0) pe_int set_list))
      (pss_one (ps_ret (pe_op op_mod (pe_callTy call_int1 rfl (T.free 46) (by decide +kernel) (pa_cons (pe_op op_fdiv (pe_op op_mod (pe_callTy call_int1 rfl (T.free 46) (by decide +kernel) (pa_cons (pe_op op_mul (pe_ix ix_list (pv 0) pe_int (fun _ _ => rfl)) (pe_ix ix_list (pv 0) pe_int (fun _ _ => rfl))) pa_nil)) pe_int) pe_int) pa_nil)) (pv 1))))))), ?_⟩
  walk_at "rd"
  have s0 := SqL.of (K := K) hR
  have md : ∀ z : Int, 0 ≤ z % m ∧ z % m < m := fun z => ⟨Int.emod_nonneg _ (by omega), Int.emod_lt_of_pos _ m0⟩
  refine ⟨_, s0, .int a, rfl, _, rfl, ite2 (fun _ => ?_) (fun _ => ?_)⟩
  · refine ⟨_, s0, .int a, rfl, _, rfl, ⟨m0, by omega⟩, fun p hp => ⟨_, SqT.of upd_same, rfl, ?_⟩⟩
    refine ⟨_, _, rfl, _, (upd_ne (ne_of_none hR hp)).trans hR, 0, rfl, _, _, rfl, rfl, ?_⟩
    exact hQ _ _ (md a).1 (md a).2 ⟨(Fx.keep Fx.refl hp).own, a / m, b, upd_same, b0, b1⟩
  · have c0 := Int.emod_nonneg (b * 39373 + 9973) (show (2147483629 : Int) ≠ 0 by decide)
    have c1 := Int.emod_lt_of_pos (b * 39373 + 9973) (show (0 : Int) < 2147483629 by decide)
    refine ⟨_, s0, .int b, rfl, _, rfl, Or.inl ⟨by omega, by omega⟩, by decide, _, hR, 1, rfl, _, SqL.of upd_same, _, rfl, _, SqL.of upd_same, _, rfl, _, rfl, _, rfl,
      Or.inl ⟨by omega, by omega⟩, by decide, ⟨by decide, by decide⟩, m0, ?_⟩
    exact hQ _ _ (md _).1 (md _).2 ⟨Fx.refl.own, a, _, upd_same, c0, by omega⟩
theorem ok_law_choice (T : Txt K mg) : Fo false P w K mg base CX0 2 d_law_choice ["_law_rng_here", "_law_options"] (spChoice K) := by
  obtain ⟨fd, F⟩ := T.dfn 16 (d := d_law_choice)
  refine ⟨fd, Fq.mk' F sc_law_choice (fun vs H Q E h => ?_) (fun cdv A outer s H vs Q E hg hr h => ?_), F⟩
  · obtain ⟨r, a, xs, rfl, _⟩ := h
    rfl
  obtain ⟨r, a, xs, rfl, hR, ne, hS, hx, hl, hQ⟩ := h
  refine ⟨_, (PSs.nox (pss_one (ps_ret (pe_ix ix_list (pv 1) (pe_o (ok_law_draw T) (T.glo 22) (b_law_draw) gd_false (hr.mono (by decide)) rfl pass0 (pa_cons (pv 0) (pa_cons (pe_callB call_len_seq rfl (T.free 48) (by decide +kernel) (pa_cons (pv 1) pa_nil)) pa_nil))) (fun _ _ => rfl))))), ?_⟩
  walk_at "rd"
  have hpos : 0 < xs.length := List.length_pos_iff.mpr hx
  refine ⟨_, Or.inl hS, r, _, rfl, hR, by omega, by omega, fun k H' k0 k1 hD => ?_⟩
  obtain ⟨k, rfl⟩ := Int.eq_ofNat_of_zero_le k0
  have hk : k < xs.length := by omega
  exact ⟨_, _, rfl, hD.seqL ne hS, xs[k], atI_nat (by simp [hk]), hQ _ _ (List.getElem_mem hk) hD⟩
end
end K11

set_option Elab.async false
set_option linter.all false
set_option maxRecDepth 100000
set_option maxHeartbeats 4000000
namespace K11
open PySem PySem.Spec PyProof.Rows L2 Ab
local macro_rules | `(tactic| walk_at "rd") => `(tactic| simp only [start_eq, List.map_cons, List.map_nil, List.length_cons, List.length_nil, List.replicate_succ, List.replicate_zero, List.cons_append, List.nil_append, Nat.reduceSub, Nat.reduceAdd, Nat.zero_add,
  tSeq, tAsg, tIf, tTest, tOp, tVar, tCB, tCons, tNil, tC, gName, tRet, tLst, tTup, tIfS, tDrop, tB, tAnd, tOr, tNot, tAndV, tOrV, tNotV, tUn, tNext, tNever, gTup, gSub, gCons, gNil, rSetL, tPar, rCat, rRep, rAppend, rAll, rAny, tM1, tBM, tBM0, tDisp, tPairs, rIn, tChain, tPart, tFld, tFmt, tJs, rRepS, tFor_eq, tLc_eq, iRng1, iRng2, iList, iTup, iStr, rI0, rI, rU, rIxL, rIxT, rIxS, tO, gPos, StX.tMakeR, tDNewK, sFld, ClX.tCVal, rSortedS, rEq, rNe, scal_ii, scal_ss, scal_bb, scal_nn, scal_is, scal_si, cx_K, cx_Kn,
  V.int.injEq, V.ref.injEq, V.str.injEq, V.bl.injEq, List.cons.injEq, Bool.not_eq_true', decide_eq_true_eq, decide_eq_false_iff_not, if_true, if_false, Bool.not_true, Bool.not_false, Bool.false_eq_true, not_true_eq_false, not_false_eq_true, and_assoc, and_true, true_and, exists_eq_left', exists_eq_left, exists_and_left, reduceCtorEq, false_and, and_false, exists_false, or_false, false_or,
  List.getElem?_cons_zero, List.getElem?_cons_succ, Option.some.injEq, List.set_cons_zero, List.set_cons_succ])
local macro_rules | `(tactic| walk_at "rk") => `(tactic| simp only [start_eq, List.map_cons, List.map_nil, List.length_cons, List.length_nil, List.replicate_succ, List.replicate_zero, List.cons_append, List.nil_append, Nat.reduceSub, Nat.reduceAdd, Nat.zero_add,
  tSeq, tAsg, tTest, tOp, tVar, tCB, tCons, tNil, tC, gName, tRet, tLst, tTup, tIfS, tDrop, tB, tAnd, tOr, tNot, tNotV, tUn, tNext, tNever, gTup, gSub, gCons, gNil, rSetL, tPar, rCat, rRep, rAppend, rAll, rAny, tM1, tBM, tBM0, tDisp, tPairs, rIn, tChain, tPart, tFld, tFmt, tJs, rRepS, tFor_eq, tLc_eq, iRng1, iRng2, iList, iTup, iStr, rI0, rI, rU, rIxL, rIxT, rIxS, tO, gPos, StX.tMakeR, tDNewK, sFld, ClX.tCVal, rSortedS, rEq, rNe, scal_ii, scal_ss, scal_bb, scal_nn, scal_is, scal_si, cx_K, cx_Kn,
  V.int.injEq, V.ref.injEq, V.str.injEq, V.bl.injEq, List.cons.injEq, Bool.not_eq_true', decide_eq_true_eq, decide_eq_false_iff_not, if_true, if_false, Bool.not_true, Bool.not_false, Bool.false_eq_true, not_true_eq_false, not_false_eq_true, and_assoc, and_true, true_and, exists_eq_left', exists_eq_left, exists_and_left, reduceCtorEq, false_and, and_false, exists_false, or_false, false_or,
  List.getElem?_cons_zero, List.getElem?_cons_succ, Option.some.injEq, List.set_cons_zero, List.set_cons_succ])
section
variable {P : Program} {w : World} {K : PySem.W.Frag} {mg : Str → Option Value} {base : Heap}
theorem ok_is_integer (T : Txt K mg) : Fo false P w K mg base CX0 1 d_is_integer ["value"] (spB K isInt) := by
  obtain ⟨fd, F⟩ := T.dfn 1 (d := d_is_integer)
  refine ⟨fd, Fq.mk' F sc_is_integer (fun vs H Q E h => ?_) (fun cdv A outer s H vs Q E hg hr h => ?_), F⟩
  · obtain ⟨v, rfl, _⟩ := h
    rfl
  obtain ⟨v, rfl, hT, hQ⟩ := h
  refine ⟨_, (PSs.nox (pss_one (ps_ret (pe_and (pe_callB call_isi rfl (T.free 42) (by decide +kernel) (pa_cons (pv 0) (pa_cons (pe_bltn (v := .ty "int") rfl (T.free 46) (by decide +kernel) rfl) pa_nil))) (pe_one (pe_not (pe_callB call_isi rfl (T.free 42) (by decide +kernel) (pa_cons (pv 0) (pa_cons (pe_bltn (v := .ty "bool") rfl (T.free 43) (by decide +kernel) rfl) pa_nil))))))))), ?_⟩
  walk_at "rd"
  refine is_int hT ⟨_, rfl, ?_⟩
  cases v <;> simp only [isInt, isBl, Bool.or_self, Bool.or_true, Bool.true_or, Bool.or_false, if_true, if_false, Bool.false_eq_true] <;> first | exact hQ _ (Same.refl _) | exact is_bool hT ⟨_, rfl, hQ _ (Same.refl _)⟩ | cases hT
theorem ok_is_count (T : Txt K mg) : Fo false P w K mg base CX0 2 d_is_count ["value"] (spB K isCt) := by
  obtain ⟨fd, F⟩ := T.dfn 2 (d := d_is_count)
  refine ⟨fd, Fq.mk' F sc_is_count (fun vs H Q E h => ?_) (fun cdv A outer s H vs Q E hg hr h => ?_), F⟩
  · obtain ⟨v, rfl, _⟩ := h
    rfl
  obtain ⟨v, rfl, hT, hQ⟩ := h
  refine ⟨_, (PSs.nox (pss_one (ps_ret (pe_and (pe_o (ok_is_integer T) (T.glo 15) (b_is_integer) gd_false (hr.mono (by decide)) rfl pass0 (pa_cons (pv 0) pa_nil)) (pe_one (pe_cmpR op_ge (pv 0) pe_int (nomark _))))))), ?_⟩
  walk_at "rd"
  refine ⟨v, rfl, hT, fun H' e => ⟨_, rfl, ?_⟩⟩
  cases v <;> simp only [isInt, if_true, if_false, Bool.false_eq_true] <;> first | exact hQ _ e | exact ⟨_, rfl, hQ _ e⟩ | cases hT
theorem ok_is_name (T : Txt K mg) : Fo false P w K mg base CX0 1 d_is_name ["value"] (spB K isNm) := by
  obtain ⟨fd, F⟩ := T.dfn 0 (d := d_is_name)
  refine ⟨fd, Fq.mk' F sc_is_name (fun vs H Q E h => ?_) (fun cdv A outer s H vs Q E hg hr h => ?_), F⟩
  · obtain ⟨v, rfl, _⟩ := h
    rfl
  obtain ⟨v, rfl, hT, hQ⟩ := h
  refine ⟨_, (PSs.nox (pss_cons (ps_if (PW.pt (pw_or (pt_not (pt_val (pe_callB call_isi rfl (T.free 42) (by decide +kernel) (pa_cons (pv 0) (pa_cons (pe_bltn (v := .ty "str") rfl (T.free 52) (by decide +kernel) rfl) pa_nil))))) (pw_or1 (pt_not (pt_chain op_le op_le pe_int (pe_callB call_len_str rfl (T.free 48) (by decide +kernel) (pa_cons (pv 0) pa_nil)) (pe_gi rfl (T.int 12))))))) (pss_one (ps_ret pe_bl)) pss_nil)
      (pss_one (ps_ret (pe_callB (cr_all rfl) rfl (T.free 41) (by decide +kernel) (pa_cons (pe_lc (own := [("letter", 1)]) rfl sc_is_name.nd (pi_str (pv 0)) (blkOk_by (own := [("letter", 1)]) (N := N_is_name) (sc := defScope s_is_name) (by decide +kernel)) (fun _ _ _ _ _ => (pg_name (i := 1) sc_is_name.nd rfl (Or.inl rfl))) (fun _ _ _ _ _ => pts_nil) (fun _ _ _ _ _ => (pe_cmpR op_in_sign (pv 1) (pe_gs rfl (T.str 10)) (by rfl)))) pa_nil)))))), ?_⟩
  walk_at "rd"
  refine is_str hT ⟨_, rfl, ?_⟩
  cases v with
  | str z =>
    have hz : (cs z).length ≤ 1000 := hT
    have lz : z.length = (cs z).length := by show z.cps.size = _; simp
    refine (if_neg (show ¬ true = false by decide)).mpr ⟨z, rfl, by rw [lz]; exact Nat.le_trans hz (by decide), ite2 (fun h1 => ite2 (fun h2 => ?_) (fun h2 => ⟨z, rfl, ?_⟩)) (fun h1 => ?_)⟩
    · have e : isNm (.str z) = false := by
        show (decide (1 ≤ (cs z).length) && (decide ((cs z).length ≤ 8) && (cs z).all fun c => decide (c ∈ cs lets))) = false
        rw [decide_eq_false (show ¬ (cs z).length ≤ 8 by omega), Bool.false_and, Bool.and_false]
      rw [← e]
      exact hQ _ (Same.refl _)
    · refine lc_inS (by omega) (fun _ => rfl) (fun _ => rfl) fun D H' hD e hl => ⟨D, rfl, (cs z).map fun c => decide (c ∈ cs lets), ?_, ?_⟩
      · rw [List.map_map]
        exact SqL.of hl
      · have e2 : (((cs z).map fun c => decide (c ∈ cs lets)).all id) = isNm (.str z) := by
          show _ = (decide (1 ≤ (cs z).length) && (decide ((cs z).length ≤ 8) && (cs z).all fun c => decide (c ∈ cs lets)))
          rw [decide_eq_true (show 1 ≤ (cs z).length by omega), decide_eq_true (show (cs z).length ≤ 8 by omega), List.all_map]
          rfl
        rw [e2]
        exact hQ _ e
    · have e : isNm (.str z) = false := by
        show (decide (1 ≤ (cs z).length) && (decide ((cs z).length ≤ 8) && (cs z).all fun c => decide (c ∈ cs lets))) = false
        rw [decide_eq_false (show ¬ 1 ≤ (cs z).length by omega), Bool.false_and]
      rw [← e]
      exact hQ _ (Same.refl _)
  | _ => first | exact hQ _ (Same.refl _) | cases hT
theorem ok_law_is_whole (T : Txt K mg) : Fo false P w K mg base CX0 1 d_law_is_whole ["_law_thing_here"] (spB K isInt) := by
  obtain ⟨fd, F⟩ := T.dfn 23 (d := d_law_is_whole)
  refine ⟨fd, Fq.mk' F sc_law_is_whole (fun vs H Q E h => ?_) (fun cdv A outer s H vs Q E hg hr h => ?_), F⟩
  · obtain ⟨v, rfl, _⟩ := h
    rfl
  obtain ⟨v, rfl, hT, hQ⟩ := h
  refine ⟨_, (PSs.nox (pss_one (ps_ret (pe_and (pe_callB call_isi rfl (T.free 42) (by decide +kernel) (pa_cons (pv 0) (pa_cons (pe_bltn (v := .ty "int") rfl (T.free 46) (by decide +kernel) rfl) pa_nil))) (pe_one (pe_not (pe_callB call_isi rfl (T.free 42) (by decide +kernel) (pa_cons (pv 0) (pa_cons (pe_bltn (v := .ty "bool") rfl (T.free 43) (by decide +kernel) rfl) pa_nil))))))))), ?_⟩
  walk_at "rd"
  refine is_int hT ⟨_, rfl, ?_⟩
  cases v <;> simp only [isInt, isBl, Bool.or_self, Bool.or_true, Bool.true_or, Bool.or_false, if_true, if_false, Bool.false_eq_true] <;> first | exact hQ _ (Same.refl _) | exact is_bool hT ⟨_, rfl, hQ _ (Same.refl _)⟩ | cases hT
theorem ok_law_is_word (T : Txt K mg) : Fo false P w K mg base CX0 1 d_law_is_word ["_law_thing_here"] (spB K isNm) := by
  obtain ⟨fd, F⟩ := T.dfn 24 (d := d_law_is_word)
  refine ⟨fd, Fq.mk' F sc_law_is_word (fun vs H Q E h => ?_) (fun cdv A outer s H vs Q E hg hr h => ?_), F⟩
  · obtain ⟨v, rfl, _⟩ := h
    rfl
  obtain ⟨v, rfl, hT, hQ⟩ := h
  refine ⟨_, (PSs.nox (pss_cons (ps_set (i := 1) sc_law_is_word.nd rfl (Or.inr rfl) pe_str)
      (pss_one (ps_ret (pe_and (pe_callB call_isi rfl (T.free 42) (by decide +kernel) (pa_cons (pv 0) (pa_cons (pe_bltn (v := .ty "str") rfl (T.free 52) (by decide +kernel) rfl) pa_nil))) (pe_and (pe_chain op_le op_le pe_int (pe_callB call_len_str rfl (T.free 48) (by decide +kernel) (pa_cons (pv 0) pa_nil)) pe_int) (pe_one (pe_callB (cr_all rfl) rfl (T.free 41) (by decide +kernel) (pa_cons (pe_lc (own := [("_law_sign", 2)]) rfl sc_law_is_word.nd (pi_str (pv 0)) (blkOk_by (own := [("_law_sign", 2)]) (N := N_law_is_word) (sc := defScope s_law_is_word) (by decide +kernel)) (fun _ _ _ _ _ => (pg_name (i := 2) sc_law_is_word.nd rfl (Or.inl rfl))) (fun _ _ _ _ _ => pts_nil) (fun _ _ _ _ _ => (pe_cmpR op_in_sign (pv 2) (pv 1) (by rfl)))) pa_nil))))))))), ?_⟩
  walk_at "rd"
  refine is_str hT ⟨_, rfl, ?_⟩
  cases v with
  | str z =>
    have hz : (cs z).length ≤ 1000 := hT
    have lz : z.length = (cs z).length := by show z.cps.size = _; simp
    refine iteT ⟨z, rfl, by rw [lz]; exact Nat.le_trans hz (by decide), ite2 (fun h1 => ite2 (fun h2 => ⟨z, rfl, ?_⟩) (fun h2 => ?_)) (fun h1 => ?_)⟩
    · refine lc_inV (by omega) (fun _ => rfl) (fun _ => rfl) (fun _ => rfl) fun D H' hD e hl => ⟨D, rfl, (cs z).map fun c => decide (c ∈ cs lets), ?_, ?_⟩
      · rw [List.map_map]
        exact SqL.of hl
      · have e2 : (((cs z).map fun c => decide (c ∈ cs lets)).all id) = isNm (.str z) := by
          show _ = (decide (1 ≤ (cs z).length) && (decide ((cs z).length ≤ 8) && (cs z).all fun c => decide (c ∈ cs lets)))
          rw [decide_eq_true (show 1 ≤ (cs z).length by omega), decide_eq_true (show (cs z).length ≤ 8 by omega), List.all_map]
          rfl
        rw [e2]
        exact hQ _ e
    · have e : isNm (.str z) = false := by
        show (decide (1 ≤ (cs z).length) && (decide ((cs z).length ≤ 8) && (cs z).all fun c => decide (c ∈ cs lets))) = false
        rw [decide_eq_false (show ¬ (cs z).length ≤ 8 by omega), Bool.false_and, Bool.and_false]
      rw [← e]
      exact hQ _ (Same.refl _)
    · have e : isNm (.str z) = false := by
        show (decide (1 ≤ (cs z).length) && (decide ((cs z).length ≤ 8) && (cs z).all fun c => decide (c ∈ cs lets))) = false
        rw [decide_eq_false (show ¬ 1 ≤ (cs z).length by omega), Bool.false_and]
      rw [← e]
      exact hQ _ (Same.refl _)
  | _ => first | exact hQ _ (Same.refl _) | cases hT
theorem txt_part {H : Hp} {Q : VK} {y : Str} {m : Bool} (hT : Ty K H (.str y)) (hQ : ∀ H', Ex H H' → Q (.bl (fitT m (.str y))) H') :
    ∃ z, V.str y = V.str z ∧ z.length ≤ sizeLine ∧ if (z.length : Int) ≤ 60 then ∃ c, Str.ofString "'" = { cps := #[c] } ∧ ∃ x, V.str y = V.str x ∧ Q (V.bl !decide (c ∈ x.cps.toList)) H else Q (V.bl false) H := by
  have hz : (cs y).length ≤ 1000 := hT
  have lz : y.length = (cs y).length := by show y.cps.size = _; simp
  refine ⟨y, rfl, by rw [lz]; exact Nat.le_trans hz (by decide), ite2 (fun h1 => ⟨39, by decide +kernel, y, rfl, ?_⟩) (fun h1 => ?_)⟩
  · have e : (!decide (39 ∈ y.cps.toList)) = fitT m (.str y) := by
      show _ = (decide ((cs y).length ≤ 60) && !decide (39 ∈ cs y))
      rw [decide_eq_true (show (cs y).length ≤ 60 by omega), Bool.true_and]
    rw [e]
    exact hQ _ (Same.refl _)
  · have e : fitT m (.str y) = false := by
      show (decide ((cs y).length ≤ 60) && !decide (39 ∈ cs y)) = false
      rw [decide_eq_false (show ¬ (cs y).length ≤ 60 by omega), Bool.false_and]
    rw [← e]
    exact hQ _ (Same.refl _)
theorem ok_is_value (T : Txt K mg) : Fo false P w K mg base CX0 2 d_is_value ["sort", "value", "may_be_empty"] (spV K) := by
  obtain ⟨fd, F⟩ := T.dfn 3 (d := d_is_value)
  refine ⟨fd, Fq.mk' F sc_is_value (fun vs H Q E h => ?_) (fun cdv A outer s H vs Q E hg hr h => ?_), F⟩
  · obtain ⟨s, v, m, rfl, _⟩ := h
    rfl
  obtain ⟨s, v, m, rfl, hS, hT, hQ⟩ := h
  refine ⟨_, (PSs.nox (pss_cons (ps_if (PW.pt (pw_or (pt_not (pt_val (pe_callB call_isi rfl (T.free 42) (by decide +kernel) (pa_cons (pv 0) (pa_cons (pe_bltn (v := .ty "str") rfl (T.free 52) (by decide +kernel) rfl) pa_nil))))) (pw_or1 (pt_cmpR op_notIn_seq (pv 0) (pe_gr rfl (T.glo 9)) (by rfl))))) (pss_one (ps_ret pe_bl)) pss_nil)
      (pss_cons (ps_if (pt_cmpR op_isN (pv 1) pe_non (nomark _)) (pss_one (ps_ret (pv 2))) pss_nil)
      (pss_cons (ps_if (pt_cmpR op_eq (pv 0) (pe_gs rfl (T.str 6)) (nomark _)) (pss_one (ps_ret (pe_and (pe_o (ok_is_integer T) (T.glo 15) (b_is_integer) gd_false (hr.mono (by decide)) rfl pass0 (pa_cons (pv 1) pa_nil)) (pe_one (pe_cmpR op_lt (pe_callB call_abs rfl (T.free 49) (by decide +kernel) (pa_cons (pv 1) pa_nil)) (pe_op op_pow pe_int pe_int) (nomark _)))))) pss_nil)
      (pss_cons (ps_if (pt_cmpR op_eq (pv 0) (pe_gs rfl (T.str 7)) (nomark _)) (pss_one (ps_ret (pe_and (pe_callB call_isi rfl (T.free 42) (by decide +kernel) (pa_cons (pv 1) (pa_cons (pe_bltn (v := .ty "str") rfl (T.free 52) (by decide +kernel) rfl) pa_nil))) (pe_and (pe_cmpR op_le (pe_callB call_len_str rfl (T.free 48) (by decide +kernel) (pa_cons (pv 1) pa_nil)) (pe_gi rfl (T.int 13)) (nomark _)) (pe_one (pe_cmpR op_notIn_sign (pe_gs rfl (T.str 11)) (pv 1) (by rfl))))))) pss_nil)
      (pss_one (ps_ret (pe_callB call_isi rfl (T.free 42) (by decide +kernel) (pa_cons (pv 1) (pa_cons (pe_bltn (v := .ty "bool") rfl (T.free 43) (by decide +kernel) rfl) pa_nil)))))))))), ?_⟩
  walk_at "rd"
  have hB : He.tupB K "SORTS" [.str "int", .str "text", .str "truth"] = true := (He.ba T.c.more).1
  have hSo : ∀ H, SqT K H (He.ga K "SORTS") [.str "int", .str "text", .str "truth"] := fun H => He.tupB_ok hB H
  refine is_str hS ⟨_, rfl, ?_⟩
  have no : isStr s = false → isV s v m = false := fun h => isV_no _ _ _ ⟨fun z => (by rw [z] at h; cases h), fun z => (by rw [z] at h; cases h), fun z => (by rw [z] at h; cases h)⟩
  cases s with
  | str z =>
    refine (if_neg (show ¬ true = false by decide)).mpr ⟨_, Or.inr (hSo H), rfl, rfl, ?_⟩
    clear no
    by_cases h1 : z = "int"
    · subst h1
      rw [isV_int] at hQ
      refine (if_neg (show ¬ inV _ _ = false by decide +kernel)).mpr (ite2 (fun h => ?_) (fun h => ⟨rfl, (if_pos rfl).mpr ⟨v, rfl, hT, fun H' e => ⟨_, rfl, ?_⟩⟩⟩))
      · subst h
        exact hQ _ (Same.refl _)
      · cases v <;> simp only [isInt, if_true, if_false, Bool.false_eq_true] <;> first | exact hQ _ e | exact ⟨_, rfl, ⟨by decide, by decide, by decide⟩, hQ _ e⟩ | exact absurd rfl h
    by_cases h2 : z = "text"
    · subst h2
      rw [isV_text] at hQ
      refine (if_neg (show ¬ inV _ _ = false by decide +kernel)).mpr (ite2 (fun h => ?_) (fun h => ⟨rfl, (if_neg (by decide +kernel)).mpr ⟨rfl, (if_pos rfl).mpr (is_str hT ⟨_, rfl, ?_⟩)⟩⟩))
      · subst h
        exact hQ _ (Same.refl _)
      · cases v with
        | str y => exact iteT (txt_part hT hQ)
        | non => exact absurd rfl h
        | _ => first | exact hQ _ (Same.refl _) | cases hT
    by_cases h3 : z = "truth"
    · subst h3
      rw [isV_truth] at hQ
      refine (if_neg (show ¬ inV _ _ = false by decide +kernel)).mpr (ite2 (fun h => ?_) (fun h => ⟨rfl, (if_neg (by decide +kernel)).mpr ⟨rfl, (if_neg (by decide +kernel)).mpr (is_bool hT ?_)⟩⟩))
      · subst h
        exact hQ _ (Same.refl _)
      · cases v with
        | non => exact absurd rfl h
        | _ => first | exact hQ _ (Same.refl _) | cases hT
    have hn : inV (.str z) [V.str "int", V.str "text", V.str "truth"] = false := by
      simp only [inV, List.any_cons, List.any_nil, eqV, Bool.or_false]
      rw [beq_false_of_ne (Ne.symm h1), beq_false_of_ne (Ne.symm h2), beq_false_of_ne (Ne.symm h3)]
      rfl
    refine (if_pos hn).mpr ?_
    rw [isV_no (.str z) v m ⟨fun e => h1 (V.str.inj e), fun e => h2 (V.str.inj e), fun e => h3 (V.str.inj e)⟩] at hQ
    exact hQ _ (Same.refl _)
  | _ => first | (rw [no rfl] at hQ; exact hQ _ (Same.refl _)) | cases hS
theorem ok_law_fits (T : Txt K mg) : Fo false P w K mg base CX0 2 d_law_fits ["_law_kind", "_law_thing_here"] (spF K) := by
  obtain ⟨fd, F⟩ := T.dfn 25 (d := d_law_fits)
  refine ⟨fd, Fq.mk' F sc_law_fits (fun vs H Q E h => ?_) (fun cdv A outer s H vs Q E hg hr h => ?_), F⟩
  · obtain ⟨s, v, rfl, _⟩ := h
    rfl
  obtain ⟨s, v, rfl, hS, hT, hQ⟩ := h
  refine ⟨_, (PSs.nox (pss_cons (ps_if (pt_cmpR op_eq (pv 0) pe_str (nomark _)) (pss_one (ps_ret (pe_and (pe_o (ok_law_is_whole T) (T.glo 30) (b_law_is_whole) gd_false (hr.mono (by decide)) rfl pass0 (pa_cons (pv 1) pa_nil)) (pe_one (pe_chain op_lt op_lt (pe_un un_neg (pe_op op_pow pe_int pe_int)) (pv 1) (pe_op op_pow pe_int pe_int)))))) pss_nil)
      (pss_cons (ps_if (pt_cmpR op_eq (pv 0) pe_str (nomark _)) (pss_one (ps_ret (pe_and (pe_callB call_isi rfl (T.free 42) (by decide +kernel) (pa_cons (pv 1) (pa_cons (pe_bltn (v := .ty "str") rfl (T.free 52) (by decide +kernel) rfl) pa_nil))) (pe_and (pe_cmpR op_le (pe_callB call_len_str rfl (T.free 48) (by decide +kernel) (pa_cons (pv 1) pa_nil)) pe_int (nomark _)) (pe_one (pe_cmpR op_notIn_sign pe_str (pv 1) (by rfl))))))) pss_nil)
      (pss_one (ps_ret (pe_callB call_isi rfl (T.free 42) (by decide +kernel) (pa_cons (pv 1) (pa_cons (pe_bltn (v := .ty "bool") rfl (T.free 43) (by decide +kernel) rfl) pa_nil)))))))), ?_⟩
  walk_at "rd"
  rcases hS with rfl | rfl | rfl
  · rw [isV_int] at hQ
    refine (if_pos rfl).mpr ⟨v, rfl, hT, fun H' e => ⟨_, rfl, ?_⟩⟩
    cases v with
    | int i =>
      refine iteT ⟨⟨by decide, by decide, by decide⟩, i, rfl, ite2 (fun h1 => ⟨⟨by decide, by decide, by decide⟩, i, rfl, ?_⟩) (fun h1 => ?_)⟩
      · have e2 : decide (i < 10 ^ Int.toNat 30) = fitI false (.int i) := by
          show _ = decide ((if i < 0 then -i else i) < 10 ^ 30)
          have e3 : Int.toNat 30 = 30 := rfl
          rw [e3] at h1 ⊢
          rw [decide_eq_decide]
          split <;> omega
        rw [e2]
        exact hQ _ e
      · have e2 : fitI false (.int i) = false := by
          show decide ((if i < 0 then -i else i) < 10 ^ 30) = false
          have e3 : Int.toNat 30 = 30 := rfl
          rw [e3] at h1
          rw [decide_eq_false_iff_not]
          split <;> omega
        rw [← e2]
        exact hQ _ e
    | _ => first | exact hQ _ e | cases hT
  · rw [isV_text] at hQ
    refine (if_neg (by decide +kernel)).mpr ((if_pos rfl).mpr (is_str hT ⟨_, rfl, ?_⟩))
    cases v with
    | str y => exact iteT (txt_part hT hQ)
    | _ => first | exact hQ _ (Same.refl _) | cases hT
  · rw [isV_truth] at hQ
    refine (if_neg (by decide +kernel)).mpr ((if_neg (by decide +kernel)).mpr (is_bool hT ?_))
    cases v <;> first | exact hQ _ (Same.refl _) | cases hT
end
end K11

set_option Elab.async false
set_option linter.all false
set_option maxRecDepth 100000
set_option maxHeartbeats 4000000
namespace K11
open PySem PySem.Spec PyProof.Rows L2 Ab
local macro_rules | `(tactic| walk_at "rd") => `(tactic| simp only [start_eq, List.map_cons, List.map_nil, List.length_cons, List.length_nil, List.replicate_succ, List.replicate_zero, List.cons_append, List.nil_append, Nat.reduceSub, Nat.reduceAdd, Nat.zero_add,
  tSeq, tAsg, tIf, tTest, tOp, tVar, tCB, tCons, tNil, tC, gName, tRet, tLst, tTup, tIfS, tDrop, tB, tAnd, tOr, tNot, tAndV, tOrV, tNotV, tUn, tNext, tNever, gTup, gSub, gCons, gNil, rSetL, tPar, rCat, rRep, rAppend, rAll, rAny, tM1, tBM, tBM0, tDisp, tPairs, rIn, tChain, tPart, tFld, tFmt, tJs, rRepS, tFor_eq, tLc_eq, iRng1, iRng2, iList, iTup, iStr, rI0, rI, rU, rIxL, rIxT, rIxS, tO, gPos, StX.tMakeR, tDNewK, sFld, ClX.tCVal, rSortedS, rEq, rNe, scal_ii, scal_ss, scal_bb, scal_nn, scal_is, scal_si, cx_K, cx_Kn,
  V.int.injEq, V.ref.injEq, V.str.injEq, V.bl.injEq, List.cons.injEq, Bool.not_eq_true', decide_eq_true_eq, decide_eq_false_iff_not, if_true, if_false, Bool.not_true, Bool.not_false, Bool.false_eq_true, not_true_eq_false, not_false_eq_true, and_assoc, and_true, true_and, exists_eq_left', exists_eq_left, exists_and_left, reduceCtorEq, false_and, and_false, exists_false, or_false, false_or,
  List.getElem?_cons_zero, List.getElem?_cons_succ, Option.some.injEq, List.set_cons_zero, List.set_cons_succ])
local macro_rules | `(tactic| walk_at "rk") => `(tactic| simp only [start_eq, List.map_cons, List.map_nil, List.length_cons, List.length_nil, List.replicate_succ, List.replicate_zero, List.cons_append, List.nil_append, Nat.reduceSub, Nat.reduceAdd, Nat.zero_add,
  tSeq, tAsg, tTest, tOp, tVar, tCB, tCons, tNil, tC, gName, tRet, tLst, tTup, tIfS, tDrop, tB, tAnd, tOr, tNot, tNotV, tUn, tNext, tNever, gTup, gSub, gCons, gNil, rSetL, tPar, rCat, rRep, rAppend, rAll, rAny, tM1, tBM, tBM0, tDisp, tPairs, rIn, tChain, tPart, tFld, tFmt, tJs, rRepS, tFor_eq, tLc_eq, iRng1, iRng2, iList, iTup, iStr, rI0, rI, rU, rIxL, rIxT, rIxS, tO, gPos, StX.tMakeR, tDNewK, sFld, ClX.tCVal, rSortedS, rEq, rNe, scal_ii, scal_ss, scal_bb, scal_nn, scal_is, scal_si, cx_K, cx_Kn,
  V.int.injEq, V.ref.injEq, V.str.injEq, V.bl.injEq, List.cons.injEq, Bool.not_eq_true', decide_eq_true_eq, decide_eq_false_iff_not, if_true, if_false, Bool.not_true, Bool.not_false, Bool.false_eq_true, not_true_eq_false, not_false_eq_true, and_assoc, and_true, true_and, exists_eq_left', exists_eq_left, exists_and_left, reduceCtorEq, false_and, and_false, exists_false, or_false, false_or,
  List.getElem?_cons_zero, List.getElem?_cons_succ, Option.some.injEq, List.set_cons_zero, List.set_cons_succ])
abbrev gKw {α : Type} : List α → List α → List α := fun _ ws => ws
abbrev gApp {α : Type} : List α → List α → List α := fun us ws => us ++ ws
def gMvs {α : Type} : List α → List α → List α
  | _, [m, v, s] => [s, v, m]
  | _, _ => []
section
variable {K : PySem.W.Frag}
theorem bk_is_name : ∀ fd, FunD K d_is_name.name d_is_name.qual d_is_name.params d_is_name.body d_is_name.scope (d_is_name.dvs K) (d_is_name.kws K) (He.fAd K d_is_name.at_) fd → Bw K fd ["value"] 0 ["value"] gKw :=
  fun fd F => bw_kw F 0 ["value"] gKw (fun _ _ _ _ _ _ us ws l1 l2 => match us, ws, l1, l2 with | [], [_], _, _ => rfl) (fun _ _ _ r => r)
theorem bk_is_integer : ∀ fd, FunD K d_is_integer.name d_is_integer.qual d_is_integer.params d_is_integer.body d_is_integer.scope (d_is_integer.dvs K) (d_is_integer.kws K) (He.fAd K d_is_integer.at_) fd → Bw K fd ["value"] 0 ["value"] gKw :=
  fun fd F => bw_kw F 0 ["value"] gKw (fun _ _ _ _ _ _ us ws l1 l2 => match us, ws, l1, l2 with | [], [_], _, _ => rfl) (fun _ _ _ r => r)
theorem bk_is_count : ∀ fd, FunD K d_is_count.name d_is_count.qual d_is_count.params d_is_count.body d_is_count.scope (d_is_count.dvs K) (d_is_count.kws K) (He.fAd K d_is_count.at_) fd → Bw K fd ["value"] 0 ["value"] gKw :=
  fun fd F => bw_kw F 0 ["value"] gKw (fun _ _ _ _ _ _ us ws l1 l2 => match us, ws, l1, l2 with | [], [_], _, _ => rfl) (fun _ _ _ r => r)
theorem be_is_value : ∀ fd, FunD K d_is_value.name d_is_value.qual d_is_value.params d_is_value.body d_is_value.scope (d_is_value.dvs K) (d_is_value.kws K) (He.fAd K d_is_value.at_) fd → Bw K fd ["sort", "value", "may_be_empty"] 2 ["may_be_empty"] gApp :=
  fun fd F => bw_kw F 2 ["may_be_empty"] gApp (fun _ _ _ _ _ _ us ws l1 l2 => match us, ws, l1, l2 with | [_, _], [_], _, _ => rfl) (fun _ _ r q => r.append q)
theorem bp_is_value : ∀ fd, FunD K d_is_value.name d_is_value.qual d_is_value.params d_is_value.body d_is_value.scope (d_is_value.dvs K) (d_is_value.kws K) (He.fAd K d_is_value.at_) fd → Bw K fd ["sort", "value", "may_be_empty"] 0 ["may_be_empty", "value", "sort"] gMvs :=
  fun fd F => bw_kw F 0 ["may_be_empty", "value", "sort"] gMvs (fun _ _ _ _ _ _ us ws l1 l2 => match us, ws, l1, l2 with | [], [_, _, _], _, _ => rfl) (fun {vs ys us ws} l1 l2 r q => match us, ws, l1, l2, q with
    | [], [_, _, _], _, _, .cons a (.cons b (.cons c .nil)) => .cons c (.cons b (.cons a .nil)))
theorem bd_is_value : ∀ fd, FunD K d_is_value.name d_is_value.qual d_is_value.params d_is_value.body d_is_value.scope (d_is_value.dvs K) (d_is_value.kws K) (He.fAd K d_is_value.at_) fd → Bw K fd ["sort", "value", "may_be_empty"] 2 [] (fun vs _ => vs ++ [.bl false]) :=
  fun fd F => bw_d1 (y := "may_be_empty") (v := .bl false) F 2 rfl (fun D doc pm an cdv ct us z l1 => match us, l1 with
    | [_, _], _ => ⟨_, _, _, _, _, _, rfl, rfl, rfl⟩)
end
section
variable {P : Program} {w : World} {K : PySem.W.Frag} {mg : Str → Option Value} {base : Heap}
theorem ok_law_told (T : Txt K mg) : Fo false P w K mg base CX0 3 d_law_told ["_law_thing_here", "_law_strange"] (spTold K) := by
  obtain ⟨fd, F⟩ := T.dfn 26 (d := d_law_told)
  refine ⟨fd, Fq.mk' F sc_law_told (fun vs H Q E h => ?_) (fun cdv A outer s H vs Q E hg hr h => ?_), F⟩
  · obtain ⟨v, st, rfl, _⟩ := h
    rfl
  obtain ⟨v, st, rfl, hT, hS, hn, hQ⟩ := h
  refine ⟨_, (PSs.nox (pss_cons (ps_set (i := 2) sc_law_told.nd rfl (Or.inl rfl) (pe_lst (pa_cons (pe_o (ok_is_name T) (T.glo 14) (b_is_name) gd_false (hr.mono (by decide)) rfl pass0 (pa_cons (pv 0) pa_nil)) (pa_cons (pe_o (ok_is_integer T) (T.glo 15) (b_is_integer) gd_false (hr.mono (by decide)) rfl pass0 (pa_cons (pv 0) pa_nil)) (pa_cons (pe_o (ok_is_count T) (T.glo 16) (b_is_count) gd_false (hr.mono (by decide)) rfl pass0 (pa_cons (pv 0) pa_nil)) pa_nil)))))
      (pss_cons (ps_set (i := 2) sc_law_told.nd rfl (Or.inl rfl) (pe_op op_cat (pv 2) (pe_lst (pa_cons (pe_ok0 (ok_is_name T) (T.glo 14) (bk_is_name) gd_false (hr.mono (by decide)) rfl pass0 (pk_cons (pv 0) pk_nil)) (pa_cons (pe_ok0 (ok_is_integer T) (T.glo 15) (bk_is_integer) gd_false (hr.mono (by decide)) rfl pass0 (pk_cons (pv 0) pk_nil)) (pa_cons (pe_ok0 (ok_is_count T) (T.glo 16) (bk_is_count) gd_false (hr.mono (by decide)) rfl pass0 (pk_cons (pv 0) pk_nil)) pa_nil))))))
      (pss_cons (ps_for PassesOwn.never rfl (pi_list (pe_lst (pa_cons pe_str (pa_cons pe_str (pa_cons pe_str pa_nil))))) (pg_name (i := 3) sc_law_told.nd rfl (Or.inl rfl)) (pss_cons (ps_set (i := 2) sc_law_told.nd rfl (Or.inl rfl) (pe_op op_cat (pv 2) (pe_lst (pa_cons (pe_o (ok_is_value T) (T.glo 17) (bd_is_value) gd_false (hr.mono (by decide)) rfl pass0 (pa_cons (pv 3) (pa_cons (pv 0) pa_nil))) (pa_cons (pe_ok (ok_is_value T) (T.glo 17) (be_is_value) gd_false (hr.mono (by decide)) rfl pass0 (pa_cons (pv 3) (pa_cons (pv 0) pa_nil)) (pk_cons pe_bl pk_nil)) pa_nil)))))
      (pss_one (ps_expr (pe_bm PySem.F.plainAttrs_list PySem.F.slot_list_append PySem.F.type_list_append mt_append (pv 2) (pa_cons (pe_ok0 (ok_is_value T) (T.glo 17) (bp_is_value) gd_false (hr.mono (by decide)) rfl pass0 (pk_cons pe_bl (pk_cons (pv 0) (pk_cons (pv 3) pk_nil)))) pa_nil))))))
      (pss_cons (ps_set (i := 2) sc_law_told.nd rfl (Or.inl rfl) (pe_op op_cat (pv 2) (pe_lst (pa_cons (pe_o (ok_is_value T) (T.glo 17) (bd_is_value) gd_false (hr.mono (by decide)) rfl pass0 (pa_cons (pv 1) (pa_cons (pv 0) pa_nil))) (pa_cons (pe_ok (ok_is_value T) (T.glo 17) (be_is_value) gd_false (hr.mono (by decide)) rfl pass0 (pa_cons (pv 1) (pa_cons (pv 0) pa_nil)) (pk_cons pe_bl pk_nil)) pa_nil)))))
      (pss_one (ps_ret (pe_op op_cat (pv 2) (pe_lst (pa_cons (pe_o (ok_is_value T) (T.glo 17) (bd_is_value) gd_false (hr.mono (by decide)) rfl pass0 (pa_cons (pv 1) (pa_cons pe_non pa_nil))) (pa_cons (pe_ok (ok_is_value T) (T.glo 17) (be_is_value) gd_false (hr.mono (by decide)) rfl pass0 (pa_cons (pv 1) (pa_cons pe_non pa_nil)) (pk_cons pe_bl pk_nil)) pa_nil))))))))))), ?_⟩
  walk_at "rd"
  refine ⟨v, rfl, hT _ (Same.refl _), fun H1 e1 => ⟨v, rfl, hT _ e1, fun H2 e2 => ⟨v, rfl, hT _ (e1.trans e2), fun H3 e3 => ⟨by decide, fun p hp => ?_⟩⟩⟩⟩
  have E3 : Ex H (upd H3 p (.lst [.bl (isNm v), .bl (isInt v), .bl (isCt v)])) := ((e1.trans e2).trans e3).trans (Ex.new hp)
  refine ⟨v, rfl, hT _ E3, fun H4 e4 => ⟨v, rfl, hT _ (E3.trans e4), fun H5 e5 => ⟨v, rfl, hT _ ((E3.trans e4).trans e5), fun H6 e6 => ⟨by decide, fun q hq => ?_⟩⟩⟩⟩
  have E6 : Ex H H6 := ((E3.trans e4).trans e5).trans e6
  have hp6 : H6 p = some (.lst [.bl (isNm v), .bl (isInt v), .bl (isCt v)]) := (e4.trans e5).trans e6 _ _ upd_same
  refine ⟨_, (upd_ne (ne_of_none hp6 hq)).trans hp6, _, upd_same, (show 6 ≤ sizeLine by decide), fun d hd => ⟨by decide, fun l hl => ⟨⟨_, SqL.of upd_same⟩, ?_⟩⟩⟩
  have Eq : Ex H (upd H6 q (.lst [.bl (isNm v), .bl (isInt v), .bl (isCt v)])) := E6.trans (Ex.new hq)
  have Hd : H d = none := Eq.free hd
  have El := (Eq.trans (Ex.new (o := .lst ([.bl (isNm v), .bl (isInt v), .bl (isCt v)] ++ [.bl (isNm v), .bl (isInt v), .bl (isCt v)])) hd)).trans (Ex.new (o := .lst [V.str "int", V.str "text", V.str "truth"]) hl)
  have Hl : H l = none := (Eq.trans (Ex.new hd)).free hl
  have ndl : d ≠ l := fun z => by
    rw [← z, upd_same] at hl
    cases hl
  have lenD : ∀ n, (List.map V.bl (List.take n (dueL v))).length ≤ 19 := fun n => by
    rw [List.length_map, List.length_take]
    exact Nat.le_trans (Nat.min_le_right _ _) (Nat.le_refl 19)
  refine for_f walk_list (fun i σ H' => ∃ D k, σ = [some v, some st, some (.ref D), k] ∧ Ex H H' ∧ H' l = some (.lst [V.str "int", V.str "text", V.str "truth"]) ∧ H D = none ∧ D ≠ l ∧ H' D = some (.lst (((dueL v).take (6 + 3 * i)).map V.bl)))
    ⟨d, none, rfl, El, upd_same, Hd, ndl, (upd_ne ndl).trans upd_same⟩ (fun i σ H' hi h => by obtain ⟨_, _, _, _, h, _⟩ := h; exact SqL.of h) ?_ ?_
  · rintro i x σ H7 H8 hi ⟨D, k, rfl, E7, hl7, hD, nDl, h7⟩ ⟨rfl, hx⟩
    walk_at "rd"
    have sx : ∃ y : Str, x = .str y ∧ (dueL v).take (6 + 3 * (i + 1)) = (dueL v).take (6 + 3 * i) ++ [isV (.str y) v false, isV (.str y) v false, isV (.str y) v true] := by
      match i, hi, hx with
      | 0, _, hx => exact ⟨"int", (Option.some.inj hx).symm, rfl⟩
      | 1, _, hx => exact ⟨"text", (Option.some.inj hx).symm, rfl⟩
      | 2, _, hx => exact ⟨"truth", (Option.some.inj hx).symm, rfl⟩
    obtain ⟨y, rfl, hy⟩ := sx
    have tyy : ∀ H, Ty K H (.str y) := fun H => by
      match i, hi, hx with
      | 0, _, hx => rw [← Option.some.inj hx]; exact (show (cs "int").length ≤ 1000 by decide +kernel)
      | 1, _, hx => rw [← Option.some.inj hx]; exact (show (cs "text").length ≤ 1000 by decide +kernel)
      | 2, _, hx => rw [← Option.some.inj hx]; exact (show (cs "truth").length ≤ 1000 by decide +kernel)
    refine ⟨.str y, v, false, rfl, tyy _, hT _ E7, fun H9 e9 => ⟨.str y, v, false, rfl, tyy _, hT _ (E7.trans e9), fun H10 e10 => ⟨by decide, fun p2 hp2 => ?_⟩⟩⟩
    have E10 : Ex H H10 := (E7.trans e9).trans e10
    have h10 := e10 _ _ (e9 _ _ h7)
    have l10 := e10 _ _ (e9 _ _ hl7)
    refine ⟨_, (upd_ne (ne_of_none h10 hp2)).trans h10, _, upd_same, Nat.le_trans (Nat.add_le_add_right (lenD _) _) (show 21 ≤ sizeLine by decide), fun p3 hp3 => ⟨.inl ⟨rfl, _, SqL.of upd_same⟩, ?_⟩⟩
    have E11 := E10.trans (Ex.new (o := .lst [.bl (isV (.str y) v false), .bl (isV (.str y) v false)]) hp2)
    have Hp3 : H p3 = none := E11.free hp3
    have n3 : l ≠ p3 := fun z => by
      rw [← z, upd_ne (ne_of_none l10 hp2), l10] at hp3
      cases hp3
    have E12 := E11.trans (Ex.new (o := .lst (List.map V.bl (List.take (6 + 3 * i) (dueL v)) ++ [.bl (isV (.str y) v false), .bl (isV (.str y) v false)])) hp3)
    refine ⟨.str y, v, true, rfl, tyy _, hT _ E12, fun H13 e13 => ⟨_, e13 _ _ upd_same, ?_, Ex.keep (E12.trans e13) Hp3, ?_, Hp3, n3.symm, ?_⟩⟩
    · rw [List.length_append]
      exact Nat.lt_of_le_of_lt (Nat.add_le_add_right (lenD _) _) (show 21 < sizeLine by decide)
    · rw [upd_ne n3]
      refine e13 _ _ ?_
      rw [upd_ne n3, upd_ne (ne_of_none l10 hp2)]
      exact l10
    · rw [upd_same, hy, List.map_append, List.append_assoc]
      rfl
  · rintro σ H7 ⟨D, k, rfl, E7, hl7, hD, nDl, h7⟩
    walk_at "rd"
    have nf : ∀ u m, isV st u m = false := fun u m => isV_no st u m hn
    refine ⟨st, v, false, rfl, hS _ E7, hT _ E7, fun H9 e9 => ⟨st, v, true, rfl, hS _ (E7.trans e9), hT _ (E7.trans e9), fun H10 e10 => ⟨by decide, fun p2 hp2 => ?_⟩⟩⟩
    have E10 : Ex H H10 := (E7.trans e9).trans e10
    have h10 := e10 _ _ (e9 _ _ h7)
    refine ⟨_, (upd_ne (ne_of_none h10 hp2)).trans h10, _, upd_same, Nat.le_trans (Nat.add_le_add_right (lenD _) _) (show 21 ≤ sizeLine by decide), fun p3 hp3 => ?_⟩
    rw [nf, nf]
    have E11 := E10.trans (Ex.new (o := .lst [.bl false, .bl false]) hp2)
    have E12 := E11.trans (Ex.new (o := .lst (List.map V.bl (List.take (6 + 3 * 3) (dueL v)) ++ [.bl false, .bl false])) (by rw [nf, nf] at hp3; exact hp3))
    refine ⟨st, .non, false, rfl, hS _ E12, trivial, fun H13 e13 => ⟨st, .non, true, rfl, hS _ (E12.trans e13), trivial, fun H14 e14 => ⟨by decide, fun p4 hp4 => ?_⟩⟩⟩
    rw [nf, nf]
    have h14 := e14 _ _ (e13 _ _ (show upd _ p3 _ p3 = some _ from upd_same))
    refine ⟨_, (upd_ne (ne_of_none h14 hp4)).trans h14, _, upd_same, ?_, fun p5 hp5 => ?_⟩
    · rw [List.length_append]
      exact Nat.le_trans (Nat.add_le_add_right (Nat.add_le_add_right (lenD _) _) _) (by decide)
    · have E14 := ((E12.trans e13).trans e14).trans (Ex.new (o := .lst [.bl false, .bl false]) hp4)
      refine hQ p5 _ (E14.free hp5) (E14.trans (Ex.new hp5)) ?_
      rw [upd_same]
      rfl
end
end K11

set_option Elab.async false
set_option linter.all false
set_option maxRecDepth 100000
set_option maxHeartbeats 4000000
namespace K11
open PySem PySem.Spec PyProof.Rows L2 Ab
local macro_rules | `(tactic| walk_at "rd") => `(tactic| simp only [start_eq, List.map_cons, List.map_nil, List.length_cons, List.length_nil, List.replicate_succ, List.replicate_zero, List.cons_append, List.nil_append, Nat.reduceSub, Nat.reduceAdd, Nat.zero_add,
  tSeq, tAsg, tIf, tTest, tOp, tVar, tCB, tCons, tNil, tC, gName, tRet, tLst, tTup, tIfS, tDrop, tB, tAnd, tOr, tNot, tAndV, tOrV, tNotV, tUn, tNext, tNever, gTup, gSub, gCons, gNil, rSetL, tPar, rCat, rRep, rAppend, rAll, rAny, tM1, tBM, tBM0, tDisp, tPairs, rIn, tChain, tPart, tFld, tFmt, tJs, rRepS, tFor_eq, tLc_eq, iRng1, iRng2, iList, iTup, iStr, rI0, rI, rU, rIxL, rIxT, rIxS, tO, gPos, StX.tMakeR, tDNewK, sFld, ClX.tCVal, rSortedS, rEq, rNe, scal_ii, scal_ss, scal_bb, scal_nn, scal_is, scal_si, cx_K, cx_Kn,
  V.int.injEq, V.ref.injEq, V.str.injEq, V.bl.injEq, List.cons.injEq, Bool.not_eq_true', decide_eq_true_eq, decide_eq_false_iff_not, if_true, if_false, Bool.not_true, Bool.not_false, Bool.false_eq_true, not_true_eq_false, not_false_eq_true, and_assoc, and_true, true_and, exists_eq_left', exists_eq_left, exists_and_left, reduceCtorEq, false_and, and_false, exists_false, or_false, false_or,
  List.getElem?_cons_zero, List.getElem?_cons_succ, Option.some.injEq, List.set_cons_zero, List.set_cons_succ])
local macro_rules | `(tactic| walk_at "rk") => `(tactic| simp only [start_eq, List.map_cons, List.map_nil, List.length_cons, List.length_nil, List.replicate_succ, List.replicate_zero, List.cons_append, List.nil_append, Nat.reduceSub, Nat.reduceAdd, Nat.zero_add,
  tSeq, tAsg, tTest, tOp, tVar, tCB, tCons, tNil, tC, gName, tRet, tLst, tTup, tIfS, tDrop, tB, tAnd, tOr, tNot, tNotV, tUn, tNext, tNever, gTup, gSub, gCons, gNil, rSetL, tPar, rCat, rRep, rAppend, rAll, rAny, tM1, tBM, tBM0, tDisp, tPairs, rIn, tChain, tPart, tFld, tFmt, tJs, rRepS, tFor_eq, tLc_eq, iRng1, iRng2, iList, iTup, iStr, rI0, rI, rU, rIxL, rIxT, rIxS, tO, gPos, StX.tMakeR, tDNewK, sFld, ClX.tCVal, rSortedS, rEq, rNe, scal_ii, scal_ss, scal_bb, scal_nn, scal_is, scal_si, cx_K, cx_Kn,
  V.int.injEq, V.ref.injEq, V.str.injEq, V.bl.injEq, List.cons.injEq, Bool.not_eq_true', decide_eq_true_eq, decide_eq_false_iff_not, if_true, if_false, Bool.not_true, Bool.not_false, Bool.false_eq_true, not_true_eq_false, not_false_eq_true, and_assoc, and_true, true_and, exists_eq_left', exists_eq_left, exists_and_left, reduceCtorEq, false_and, and_false, exists_false, or_false, false_or,
  List.getElem?_cons_zero, List.getElem?_cons_succ, Option.some.injEq, List.set_cons_zero, List.set_cons_succ])
section
variable {P : Program} {w : World} {K : PySem.W.Frag} {mg : Str → Option Value} {base : Heap}
theorem fit_none (y : Str) (v : V) (h : y = "int" ∨ y = "text" ∨ y = "truth") : (decide (v = .non) || isV (.str y) v false) = isV (.str y) v true := by
  rcases h with rfl | rfl | rfl
  · rw [isV_int, isV_int]; cases v <;> rfl
  · rw [isV_text, isV_text]; cases v <;> rfl
  · rw [isV_truth, isV_truth]; cases v <;> rfl
theorem ok_law_due (T : Txt K mg) : Fo false P w K mg base CX0 3 d_law_due ["_law_thing_here"] (spDue K) := by
  obtain ⟨fd, F⟩ := T.dfn 27 (d := d_law_due)
  refine ⟨fd, Fq.mk' F sc_law_due (fun vs H Q E h => ?_) (fun cdv A outer s H vs Q E hg hr h => ?_), F⟩
  · obtain ⟨v, rfl, _⟩ := h
    rfl
  obtain ⟨v, rfl, hT, hQ⟩ := h
  refine ⟨_, (PSs.nox (pss_cons (ps_set (i := 1) sc_law_due.nd rfl (Or.inl rfl) (pe_op op_rep (pe_lst (pa_cons (pe_o (ok_law_is_word T) (T.glo 31) (b_law_is_word) gd_false (hr.mono (by decide)) rfl pass0 (pa_cons (pv 0) pa_nil)) (pa_cons (pe_o (ok_law_is_whole T) (T.glo 30) (b_law_is_whole) gd_false (hr.mono (by decide)) rfl pass0 (pa_cons (pv 0) pa_nil)) (pa_cons (pe_and (pe_o (ok_law_is_whole T) (T.glo 30) (b_law_is_whole) gd_false (hr.mono (by decide)) rfl pass0 (pa_cons (pv 0) pa_nil)) (pe_one (pe_cmpR op_ge (pv 0) pe_int (nomark _)))) pa_nil)))) pe_int))
      (pss_cons (ps_for PassesOwn.never rfl (pi_list (pe_lst (pa_cons pe_str (pa_cons pe_str (pa_cons pe_str pa_nil))))) (pg_name (i := 2) sc_law_due.nd rfl (Or.inl rfl)) (pss_one (ps_set (i := 1) sc_law_due.nd rfl (Or.inl rfl) (pe_op op_cat (pe_op op_cat (pv 1) (pe_op op_rep (pe_lst (pa_cons (pe_o (ok_law_fits T) (T.glo 32) (b_law_fits) gd_false (hr.mono (by decide)) rfl pass0 (pa_cons (pv 2) (pa_cons (pv 0) pa_nil))) pa_nil)) pe_int)) (pe_lst (pa_cons (pe_or (pe_cmpR op_isN (pv 0) pe_non (nomark _)) (pe_one (pe_o (ok_law_fits T) (T.glo 32) (b_law_fits) gd_false (hr.mono (by decide)) rfl pass0 (pa_cons (pv 2) (pa_cons (pv 0) pa_nil))))) pa_nil))))))
      (pss_one (ps_ret (pe_op op_cat (pv 1) (pe_op op_rep (pe_lst (pa_cons pe_bl pa_nil)) pe_int))))))), ?_⟩
  walk_at "rk"
  have and_ct : ∀ (H1 : Hp) (Q : VK), Ex H H1 → (∀ H2, Ex H1 H2 → Q (.bl (isCt v)) H2) → tAndV (tO 1 0 (spB K isInt) gPos E0 (tCons (tVar 0) tNil) tNil) (tOp (rI0 fun i j => V.bl (decide (j ≤ i))) (tVar 0) (tC (V.int 0))) [some v, none, none] H1 Q := fun H1 Q e q => by
    walk_at "rd"
    refine ⟨v, rfl, hT _ e, fun H2 e2 => ⟨_, rfl, ?_⟩⟩
    cases v <;> first | exact q _ e2 | exact iteT ⟨_, rfl, q _ e2⟩
  refine ⟨v, rfl, hT _ (Same.refl _), fun H1 e1 => ⟨v, rfl, hT _ e1, fun H2 e2 => and_ct H2 _ (e1.trans e2) fun H3 e3 => ⟨by decide, fun p hp => ⟨_, upd_same, by decide, by decide, (show 6 ≤ sizeLine by decide), fun d hd => ⟨by decide, fun l hl => ⟨⟨_, SqL.of upd_same⟩, ?_⟩⟩⟩⟩⟩⟩
  have E3 : Ex H H3 := (e1.trans e2).trans e3
  have Eq := E3.trans (Ex.new (o := .lst [.bl (isNm v), .bl (isInt v), .bl (isCt v)]) hp)
  have Hd : H d = none := Eq.free hd
  have El := (Eq.trans (Ex.new (o := .lst ([.bl (isNm v), .bl (isInt v), .bl (isCt v), .bl (isNm v), .bl (isInt v), .bl (isCt v)])) hd)).trans (Ex.new (o := .lst [V.str "int", V.str "text", V.str "truth"]) hl)
  have Hl : H l = none := (Eq.trans (Ex.new hd)).free hl
  have ndl : d ≠ l := fun z => by
    rw [← z, upd_same] at hl
    cases hl
  have lenD : ∀ n, (List.map V.bl (List.take n (dueL v))).length ≤ 19 := fun n => by
    rw [List.length_map, List.length_take]
    exact Nat.le_trans (Nat.min_le_right _ _) (Nat.le_refl 19)
  refine for_f walk_list (fun i σ H' => ∃ D k, σ = [some v, some (.ref D), k] ∧ Ex H H' ∧ H' l = some (.lst [V.str "int", V.str "text", V.str "truth"]) ∧ H D = none ∧ D ≠ l ∧ H' D = some (.lst (((dueL v).take (6 + 3 * i)).map V.bl)))
    ⟨d, none, rfl, El, upd_same, Hd, ndl, (upd_ne ndl).trans upd_same⟩ (fun i σ H' hi h => by obtain ⟨_, _, _, _, h, _⟩ := h; exact SqL.of h) ?_ ?_
  · rintro i x σ H7 H8 hi ⟨D, k, rfl, E7, hl7, hD, nDl, h7⟩ ⟨rfl, hx⟩
    walk_at "rk"
    have sx : ∃ y : Str, x = .str y ∧ (y = "int" ∨ y = "text" ∨ y = "truth") ∧ (dueL v).take (6 + 3 * (i + 1)) = (dueL v).take (6 + 3 * i) ++ [isV (.str y) v false, isV (.str y) v false, isV (.str y) v true] := by
      match i, hi, hx with
      | 0, _, hx => exact ⟨"int", (Option.some.inj hx).symm, .inl rfl, rfl⟩
      | 1, _, hx => exact ⟨"text", (Option.some.inj hx).symm, .inr (.inl rfl), rfl⟩
      | 2, _, hx => exact ⟨"truth", (Option.some.inj hx).symm, .inr (.inr rfl), rfl⟩
    obtain ⟨y, rfl, sy, hy⟩ := sx
    have or_n : ∀ (H1 : Hp) (Q : VK) (a : Option V), Ex H H1 → (∀ H2, Ex H1 H2 → Q (.bl (isV (.str y) v true)) H2) → tOrV (tOp (fun x y H Q => y = V.non ∧ Q (V.bl (decide (x = V.non))) H) (tVar 0) (tC V.non)) (tO 2 0 (spF K) gPos E0 (tCons (tVar 2) (tCons (tVar 0) tNil)) tNil) [some v, a, some (.str y)] H1 Q := fun H1 Q a e q => by
      rw [← fit_none y v sy] at q
      walk_at "rd"
      refine ite2 (fun h => ?_) (fun h => ⟨y, v, rfl, sy, hT _ e, fun H2 e2 => ?_⟩)
      · rw [decide_eq_true h, Bool.true_or] at q
        exact q _ (Same.refl _)
      · rw [decide_eq_false h, Bool.false_or] at q
        exact q _ e2
    refine ⟨y, v, rfl, sy, hT _ E7, fun H9 e9 => ⟨by decide, fun p1 hp1 => ⟨_, upd_same, by decide, by decide, (show 2 ≤ sizeLine by decide), fun p2 hp2 => ?_⟩⟩⟩
    have E9 := (E7.trans e9).trans (Ex.new (o := .lst [.bl (isV (.str y) v false)]) hp1)
    have E10 := E9.trans (Ex.new (o := .lst [.bl (isV (.str y) v false), .bl (isV (.str y) v false)]) hp2)
    have k10 : ∀ b o, H8 b = some o → upd (upd H9 p1 (.lst [.bl (isV (.str y) v false)])) p2 (.lst [.bl (isV (.str y) v false), .bl (isV (.str y) v false)]) b = some o := fun b o h =>
      (e9.trans (Ex.new hp1)).trans (Ex.new hp2) b o h
    refine ⟨_, k10 _ _ h7, _, upd_same, Nat.le_trans (Nat.add_le_add_right (lenD _) _) (show 21 ≤ sizeLine by decide), fun p3 hp3 => ?_⟩
    have E11 := E10.trans (Ex.new (o := .lst (List.map V.bl (List.take (6 + 3 * i) (dueL v)) ++ [.bl (isV (.str y) v false), .bl (isV (.str y) v false)])) hp3)
    refine or_n _ _ _ E11 fun H12 e12 => ⟨by decide, fun p4 hp4 => ?_⟩
    have h12 := e12 _ _ (show upd _ p3 _ p3 = some _ from upd_same)
    refine ⟨_, (upd_ne (ne_of_none h12 hp4)).trans h12, _, upd_same, ?_, fun p5 hp5 => ?_⟩
    · rw [List.length_append]
      exact Nat.le_trans (Nat.add_le_add_right (Nat.add_le_add_right (lenD _) _) _) (show 22 ≤ sizeLine by decide)
    · have E12 := (E11.trans e12).trans (Ex.new (o := .lst [.bl (isV (.str y) v true)]) hp4)
      have l12 := (Ex.new (o := .lst [.bl (isV (.str y) v true)]) hp4) _ _ (e12 _ _ (Ex.new hp3 _ _ (k10 _ _ hl7)))
      refine ⟨E12.trans (Ex.new hp5), Ex.new hp5 _ _ l12, E12.free hp5, (ne_of_none l12 hp5).symm, ?_⟩
      rw [upd_same, hy, List.map_append, List.append_assoc]
      rfl
  · rintro σ H7 ⟨D, k, rfl, E7, hl7, hD, nDl, h7⟩
    walk_at "rd"
    refine ⟨by decide, fun p1 hp1 => ⟨_, upd_same, by decide, by decide, (show 4 ≤ sizeLine by decide), fun p2 hp2 => ?_⟩⟩
    have h8 := (Ex.new (o := .lst [.bl false]) hp1).trans (Ex.new (o := .lst (List.replicate (Int.toNat 4) [V.bl false]).flatten) hp2) _ _ h7
    refine ⟨_, h8, _, upd_same, Nat.le_trans (Nat.add_le_add_right (lenD _) _) (show 23 ≤ sizeLine by decide), fun p3 hp3 => ?_⟩
    have E9 := (E7.trans (Ex.new (o := .lst [.bl false]) hp1)).trans (Ex.new (o := .lst (List.replicate (Int.toNat 4) [V.bl false]).flatten) hp2)
    refine hQ p3 _ (E9.free hp3) (E9.trans (Ex.new hp3)) ?_
    rw [upd_same]
    rfl
end
end K11

set_option Elab.async false
set_option linter.all false
set_option maxRecDepth 100000
set_option maxHeartbeats 4000000
namespace K11
open PySem PySem.Spec PyProof.Rows L2 Ab
local macro_rules | `(tactic| walk_at "rd") => `(tactic| simp only [start_eq, List.map_cons, List.map_nil, List.length_cons, List.length_nil, List.replicate_succ, List.replicate_zero, List.cons_append, List.nil_append, Nat.reduceSub, Nat.reduceAdd, Nat.zero_add,
  tSeq, tAsg, tIf, tTest, tOp, tVar, tCB, tCons, tNil, tC, gName, tRet, tLst, tTup, tIfS, tDrop, tB, tAnd, tOr, tNot, tAndV, tOrV, tNotV, tUn, tNext, tNever, gTup, gSub, gCons, gNil, rSetL, tPar, rCat, rRep, rAppend, rAll, rAny, tM1, tBM, tBM0, tDisp, tPairs, rIn, tChain, tPart, tFld, tFmt, tJs, rRepS, tFor_eq, tLc_eq, iRng1, iRng2, iList, iTup, iStr, rI0, rI, rU, rIxL, rIxT, rIxS, tO, gPos, StX.tMakeR, tDNewK, sFld, ClX.tCVal, rSortedS, rEq, rNe, scal_ii, scal_ss, scal_bb, scal_nn, scal_is, scal_si, cx_K, cx_Kn,
  V.int.injEq, V.ref.injEq, V.str.injEq, V.bl.injEq, List.cons.injEq, Bool.not_eq_true', decide_eq_true_eq, decide_eq_false_iff_not, if_true, if_false, Bool.not_true, Bool.not_false, Bool.false_eq_true, not_true_eq_false, not_false_eq_true, and_assoc, and_true, true_and, exists_eq_left', exists_eq_left, exists_and_left, reduceCtorEq, false_and, and_false, exists_false, or_false, false_or,
  List.getElem?_cons_zero, List.getElem?_cons_succ, Option.some.injEq, List.set_cons_zero, List.set_cons_succ])
local macro_rules | `(tactic| walk_at "rk") => `(tactic| simp only [start_eq, List.map_cons, List.map_nil, List.length_cons, List.length_nil, List.replicate_succ, List.replicate_zero, List.cons_append, List.nil_append, Nat.reduceSub, Nat.reduceAdd, Nat.zero_add,
  tSeq, tAsg, tTest, tOp, tVar, tCB, tCons, tNil, tC, gName, tRet, tLst, tTup, tIfS, tDrop, tB, tAnd, tOr, tNot, tNotV, tUn, tNext, tNever, gTup, gSub, gCons, gNil, rSetL, tPar, rCat, rRep, rAppend, rAll, rAny, tM1, tBM, tBM0, tDisp, tPairs, rIn, tChain, tPart, tFld, tFmt, tJs, rRepS, tFor_eq, tLc_eq, iRng1, iRng2, iList, iTup, iStr, rI0, rI, rU, rIxL, rIxT, rIxS, tO, gPos, StX.tMakeR, tDNewK, sFld, ClX.tCVal, rSortedS, rEq, rNe, scal_ii, scal_ss, scal_bb, scal_nn, scal_is, scal_si, cx_K, cx_Kn,
  V.int.injEq, V.ref.injEq, V.str.injEq, V.bl.injEq, List.cons.injEq, Bool.not_eq_true', decide_eq_true_eq, decide_eq_false_iff_not, if_true, if_false, Bool.not_true, Bool.not_false, Bool.false_eq_true, not_true_eq_false, not_false_eq_true, and_assoc, and_true, true_and, exists_eq_left', exists_eq_left, exists_and_left, reduceCtorEq, false_and, and_false, exists_false, or_false, false_or,
  List.getElem?_cons_zero, List.getElem?_cons_succ, Option.some.injEq, List.set_cons_zero, List.set_cons_succ])
def spLetters : Sp := fun vs H Q _ => ∃ (r : Addr) (n : Nat), vs = [.ref r, .int (n : Int)] ∧ Rng r H ∧ n ≤ 100 ∧
  ∀ (z : Str) (H' : Hp), (cs z).length = n → (∀ c ∈ cs z, c ∈ cs lets) → Dr r H H' → Q (.str z) H'
def spDigits : Sp := fun vs H Q _ => ∃ (r : Addr) (n : Nat), vs = [.ref r, .int (n : Int)] ∧ Rng r H ∧ n ≤ 40 ∧
  ∀ (i : Int) (H' : Hp), 0 ≤ i → i < 10 ^ 41 → Dr r H H' → Q (.int i) H'
/-- short, and plain signs alone -/
def Gn (n : Nat) (z : Str) : Prop := (cs z).length ≤ n ∧ ∀ c ∈ cs z, c < 128
instance (n : Nat) (z : Str) : Decidable (Gn n z) := by unfold Gn; infer_instance
theorem Gn.le {n m : Nat} {z : Str} (h : Gn n z) (e : n ≤ m) : Gn m z := ⟨Nat.le_trans h.1 e, h.2⟩
theorem Gn.app {a b : Str} (ha : Gn 100 a) (hb : Gn 100 b) : Gn 200 (a ++ b) := by
  refine ⟨?_, fun c hc => ?_⟩
  · rw [cs_app_len]
    have := ha.1
    have := hb.1
    omega
  · rw [cs_app] at hc
    rcases List.mem_append.mp hc with h | h
    · exact ha.2 c h
    · exact hb.2 c h
theorem lets128 : ∀ c ∈ cs lets, c < 128 := by decide +kernel
def spString : Sp := fun vs H Q _ => ∃ r : Addr, vs = [.ref r] ∧ Rng r H ∧ ∀ (z : Str) (H' : Hp), Gn 200 z → Dr r H H' → Q (.str z) H'
def spNumber : Sp := fun vs H Q _ => ∃ r : Addr, vs = [.ref r] ∧ Rng r H ∧ ∀ (i : Int) (H' : Hp), i.natAbs < 10 ^ 42 → Dr r H H' → Q (.int i) H'
section
variable {P : Program} {w : World} {K : PySem.W.Frag} {mg : Str → Option Value} {base : Heap}
theorem ok_law_letters (T : Txt K mg) : Fo false P w K mg base CX0 2 d_law_letters ["_law_rng_here", "_law_many"] spLetters := by
  obtain ⟨fd, F⟩ := T.dfn 17 (d := d_law_letters)
  refine ⟨fd, Fq.mk' F sc_law_letters (fun vs H Q E h => ?_) (fun cdv A outer s H vs Q E hg hr h => ?_), F⟩
  · obtain ⟨r, n, rfl, _⟩ := h
    rfl
  obtain ⟨r, n, rfl, hR, hn, hQ⟩ := h
  refine ⟨_, (PSs.nox (pss_one (ps_ret (pe_join pe_str (pe_lc (own := [("_law_k", 2)]) rfl sc_law_letters.nd (pi_range1 rfl (T.free 45) (pa_cons (pv 1) pa_nil)) (blkOk_by (own := [("_law_k", 2)]) (N := N_law_letters) (sc := defScope s_law_letters) (by decide +kernel)) (fun _ _ _ _ _ => (pg_name (i := 2) sc_law_letters.nd rfl (Or.inl rfl))) (fun _ _ _ _ _ => pts_nil) (fun _ _ _ _ _ => (pe_ix ix_str pe_str (pe_o (ok_law_draw T) (T.glo 22) (b_law_draw) gd_false (hr.mono (by decide)) rfl pass0 (pa_cons (pv 0) (pa_cons pe_int pa_nil))) (fun _ _ => rfl)))))))), ?_⟩
  walk_at "rd"
  refine ⟨⟨_, rfl⟩, by omega, by omega, ?_⟩
  rw [Int.toNat_natCast]
  refine lc_dr walk_range hR (fun _ _ => trivial) (by omega) (fun _ _ _ y => ∃ z : Str, y = .str z ∧ ∃ c ∈ cs lets, z = ⟨#[c]⟩) (fun _ _ _ _ _ _ e => e) ?_ ?_
  · rintro D i x H1 H2 hi hD hD2 d ⟨rfl, rfl⟩ Qn k
    walk_at "rd"
    refine ⟨rfl, _, rfl, r, 26, rfl, d.rg, by decide, by decide, fun m H3 m0 m1 d3 => ?_⟩
    obtain ⟨m, rfl⟩ := Int.eq_ofNat_of_zero_le m0
    have hm : m < (cs lets).length := Nat.lt_of_lt_of_eq (by omega) (show 26 = (cs lets).length by decide +kernel)
    refine ⟨_, rfl, by decide +kernel, (cs lets)[m], atI_nat (by simp [hm]), ?_⟩
    exact k _ _ d3 ⟨_, rfl, _, List.getElem_mem hm, rfl⟩
  · intro D ys H1 hD d hy hl he
    obtain ⟨zs, rfl, hz⟩ := strs_of fun i y q => he i y q
    obtain ⟨h1, h2, h3⟩ := ones_sum hz
    rw [List.length_map] at hl
    refine ⟨D, rfl, zs, Or.inl (SqL.of hy), ?_, ?_⟩
    · rw [h1]
      have e : (Str.ofString "").length = 0 := by decide +kernel
      rw [e]
      omega
    · refine hQ _ _ ?_ ?_ d
      · rw [cs_join0, h2, hl]
      · rw [cs_join0]
        exact h3
theorem ok_law_digits (T : Txt K mg) : Fo false P w K mg base CX0 2 d_law_digits ["_law_rng_here", "_law_many"] spDigits := by
  obtain ⟨fd, F⟩ := T.dfn 18 (d := d_law_digits)
  refine ⟨fd, Fq.mk' F sc_law_digits (fun vs H Q E h => ?_) (fun cdv A outer s H vs Q E hg hr h => ?_), F⟩
  · obtain ⟨r, n, rfl, _⟩ := h
    rfl
  obtain ⟨r, n, rfl, hR, hn, hQ⟩ := h
  refine ⟨_, (PSs.nox (pss_cons (ps_set (i := 2) sc_law_digits.nd rfl (Or.inl rfl) (pe_op op_add pe_int (pe_o (ok_law_draw T) (T.glo 22) (b_law_draw) gd_false (hr.mono (by decide)) rfl pass0 (pa_cons (pv 0) (pa_cons pe_int pa_nil)))))
      (pss_cons (ps_for PassesOwn.never rfl (pi_range1 rfl (T.free 45) (pa_cons (pe_op op_sub (pv 1) pe_int) pa_nil)) (pg_name (i := 3) sc_law_digits.nd rfl (Or.inl rfl)) (pss_one (ps_set (i := 2) sc_law_digits.nd rfl (Or.inl rfl) (pe_op op_add (pe_op op_mul pe_int (pv 2)) (pe_o (ok_law_draw T) (T.glo 22) (b_law_draw) gd_false (hr.mono (by decide)) rfl pass0 (pa_cons (pv 0) (pa_cons pe_int pa_nil)))))))
      (pss_one (ps_ret (pv 2)))))), ?_⟩
  walk_at "rd"
  refine ⟨r, 9, rfl, hR, by decide, by decide, fun k H1 k0 k1 d1 => ⟨k, rfl, by omega, by omega, ?_⟩⟩
  refine for_f walk_range (fun i σ H' => ∃ x a, σ = [some (.ref r), some (.int (n : Int)), some (.int x), a] ∧ 0 ≤ x ∧ x < 10 ^ (i + 1) ∧ Dr r H H')
    ⟨1 + k, none, rfl, by omega, by omega, d1⟩ (fun _ _ _ _ _ => trivial) ?_ ?_
  · rintro i x σ H2 H3 hi ⟨y, a, rfl, y0, y1, d2⟩ ⟨rfl, rfl⟩
    walk_at "rd"
    refine ⟨Or.inl ⟨by decide, by decide⟩, r, 10, rfl, d2.rg, by decide, by decide, fun m H4 m0 m1 d4 => ⟨m, rfl, by omega, ?_, d2.trans d4⟩⟩
    rw [Int.pow_succ]
    omega
  · rintro σ H2 ⟨y, a, rfl, y0, y1, d2⟩
    walk_at "rd"
    refine hQ _ _ y0 (Int.lt_of_lt_of_le y1 ?_) d2
    have e : ((10 : Nat) ^ (((n : Int) - 1).toNat + 1)) ≤ 10 ^ 41 := Nat.pow_le_pow_right (by decide) (by omega)
    exact_mod_cast e
theorem ok_law_string (T : Txt K mg) : Fo false P w K mg base CX0 3 d_law_string ["_law_rng_here"] spString := by
  obtain ⟨fd, F⟩ := T.dfn 19 (d := d_law_string)
  refine ⟨fd, Fq.mk' F sc_law_string (fun vs H Q E h => ?_) (fun cdv A outer s H vs Q E hg hr h => ?_), F⟩
  · obtain ⟨r, rfl, _⟩ := h
    rfl
  obtain ⟨r, rfl, hR, hQ⟩ := h
  refine ⟨_, (PSs.nox (pss_cons (ps_par (i := 1) (j := 2) (by rfl) sc_law_string.nd rfl rfl (by decide) rfl rfl (pa_cons (pe_o (ok_law_draw T) (T.glo 22) (b_law_draw) gd_false (hr.mono (by decide)) rfl pass0 (pa_cons (pv 0) (pa_cons pe_int pa_nil))) (pa_cons (pe_o (ok_law_letters T) (T.glo 24) (b_law_letters) gd_false (hr.mono (by decide)) rfl pass0 (pa_cons (pv 0) (pa_cons (pe_op op_add pe_int (pe_o (ok_law_draw T) (T.glo 22) (b_law_draw) gd_false (hr.mono (by decide)) rfl pass0 (pa_cons (pv 0) (pa_cons pe_int pa_nil)))) pa_nil))) pa_nil)) (by rfl))
      (pss_cons (ps_if (pt_cmpR op_eq (pv 1) pe_int (nomark _)) (pss_one (ps_ret (pv 2))) pss_nil)
      (pss_cons (ps_if (pt_cmpR op_eq (pv 1) pe_int (nomark _)) (pss_cons (ps_set (i := 3) sc_law_string.nd rfl (Or.inl rfl) (pe_lst (pa_cons pe_str (pa_cons (pe_op op_add_str (pv 2) pe_str) (pa_cons (pe_op op_add_str (pv 2) pe_str) (pa_cons (pe_op op_add_str pe_str (pv 2)) (pa_cons (pe_op op_add_str (pv 2) pe_str) (pa_cons (pe_op op_add_str (pv 2) pe_str) (pa_cons (pe_op op_add_str (pv 2) pe_str) (pa_cons (pe_op op_add_str (pv 2) pe_str) (pa_cons (pe_op op_add_str pe_str (pv 2)) pa_nil)))))))))))
      (pss_one (ps_ret (pe_o (ok_law_choice T) (T.glo 23) (b_law_choice) gd_false (hr.mono (by decide)) rfl pass0 (pa_cons (pv 0) (pa_cons (pv 3) pa_nil)))))) pss_nil)
      (pss_cons (ps_if (pt_cmpR op_eq (pv 1) pe_int (nomark _)) (pss_one (ps_ret (pe_op Ab.op_repS (pe_o (ok_law_choice T) (T.glo 23) (b_law_choice) gd_false (hr.mono (by decide)) rfl pass0 (pa_cons (pv 0) (pa_cons (pe_lst (pa_cons pe_str (pa_cons pe_str (pa_cons pe_str (pa_cons pe_str (pa_cons pe_str pa_nil)))))) pa_nil))) (pe_o (ok_law_choice T) (T.glo 23) (b_law_choice) gd_false (hr.mono (by decide)) rfl pass0 (pa_cons (pv 0) (pa_cons (pe_lst (pa_cons pe_int (pa_cons pe_int (pa_cons pe_int (pa_cons pe_int (pa_cons pe_int (pa_cons pe_int pa_nil))))))) pa_nil)))))) pss_nil)
      (pss_cons (ps_if (pt_cmpR op_eq (pv 1) pe_int (nomark _)) (pss_one (ps_ret (pe_o (ok_law_choice T) (T.glo 23) (b_law_choice) gd_false (hr.mono (by decide)) rfl pass0 (pa_cons (pv 0) (pa_cons (pe_lst (pa_cons pe_str (pa_cons (pe_op op_add_str (pv 2) pe_str) (pa_cons (pe_op op_add_str (pe_op op_add_str pe_str (pv 2)) pe_str) (pa_cons (pe_op op_add_str (pe_op Ab.op_repS pe_str pe_int) pe_str) (pa_cons (pe_op op_add_str (pv 2) pe_str) pa_nil)))))) pa_nil))))) pss_nil)
      (pss_cons (ps_if (pt_cmpR op_eq (pv 1) pe_int (nomark _)) (pss_one (ps_ret (pe_o (ok_law_choice T) (T.glo 23) (b_law_choice) gd_false (hr.mono (by decide)) rfl pass0 (pa_cons (pv 0) (pa_cons (pe_lst (pa_cons pe_str (pa_cons pe_str (pa_cons pe_str (pa_cons pe_str (pa_cons pe_str (pa_cons pe_str (pa_cons pe_str (pa_cons pe_str (pa_cons pe_str (pa_cons pe_str pa_nil))))))))))) pa_nil))))) pss_nil)
      (pss_one (ps_ret (pe_op op_add_str (pe_o (ok_law_letters T) (T.glo 24) (b_law_letters) gd_false (hr.mono (by decide)) rfl pass0 (pa_cons (pv 0) (pa_cons pe_int pa_nil))) (pe_o (ok_law_letters T) (T.glo 24) (b_law_letters) gd_false (hr.mono (by decide)) rfl pass0 (pa_cons (pv 0) (pa_cons (pe_o (ok_law_draw T) (T.glo 22) (b_law_draw) gd_false (hr.mono (by decide)) rfl pass0 (pa_cons (pv 0) (pa_cons pe_int pa_nil))) pa_nil))))))))))))), ?_⟩
  walk_at "rd"
  refine ⟨r, 6, rfl, hR, by decide, by decide, fun k H1 k0 k1 d1 => ⟨r, 9, rfl, d1.rg, by decide, by decide, fun m H2 m0 m1 d2 => ⟨m, rfl, ?_⟩⟩⟩
  obtain ⟨m, rfl⟩ := Int.eq_ofNat_of_zero_le m0
  refine ⟨r, 1 + m, by simp, d2.rg, by omega, fun z H3 hz hz2 d3 => ?_⟩
  have D3 := (d1.trans d2).trans d3
  have lz := cs_len z
  have zc : (cs z).length ≤ 50 := by omega
  have zl : z.length ≤ 50 := by omega
  have sz2 : ∀ a b : Str, a.length ≤ 100 → b.length ≤ 100 → a.length + b.length ≤ sizeLine := fun a b ha hb => Nat.le_trans (Nat.add_le_add ha hb) (by decide)
  have ap : ∀ a b : Str, Gn 100 a → Gn 100 b → Gn 200 (a ++ b) := fun a b ha hb => ha.app hb
  have zl' : z.length ≤ 100 := by omega
  have zc' : Gn 100 z := ⟨by omega, fun c hc => lets128 c (hz2 c hc)⟩
  have fz : ∀ (p : Addr) (xs : List V), H3 p = none → xs ≠ [] → xs.length ≤ 20 → (∀ v ∈ xs, ∃ z : Str, v = .str z ∧ Gn 200 z) → spChoice K [.ref r, .ref p] (upd H3 p (.lst xs)) Q E0 := fun p xs hp h0 h1 h2 =>
    ⟨r, p, xs, rfl, D3.rg.ex (Ex.new hp), D3.rg.ne hp, SqL.of upd_same, h0, by omega, fun v H4 hv d4 => by
      obtain ⟨u, rfl, hu⟩ := h2 v hv
      exact hQ u H4 hu ((D3.ex (Ex.new hp)).trans d4)⟩
  walk_at "rd"
  have e1 : ∀ {a : Str}, Gn 200 a → ∃ z : Str, V.str a = .str z ∧ Gn 200 z := fun h => ⟨_, rfl, h⟩
  refine ite2 (fun _ => hQ z H3 (zc'.le (by decide)) D3) (fun _ => ite2 (fun _ => ?_) (fun _ => ite2 (fun _ => ?_) (fun _ => ite2 (fun _ => ?_) (fun _ => ite2 (fun _ => ?_) (fun _ => ?_)))))
  · refine ⟨sz2 _ _ zl' (by decide +kernel), sz2 _ _ zl' (by decide +kernel), sz2 _ _ (by decide +kernel) zl', sz2 _ _ zl' (by decide +kernel), sz2 _ _ zl' (by decide +kernel), sz2 _ _ zl' (by decide +kernel), sz2 _ _ zl' (by decide +kernel), sz2 _ _ (by decide +kernel) zl', by decide, fun p hp => fz p _ hp (by simp) (by simp) ?_⟩
    simp only [List.forall_mem_cons]
    exact ⟨e1 (by decide +kernel), e1 (ap _ _ zc' (by decide +kernel)), e1 (ap _ _ zc' (by decide +kernel)), e1 (ap _ _ (by decide +kernel) zc'), e1 (ap _ _ zc' (by decide +kernel)), e1 (ap _ _ zc' (by decide +kernel)), e1 (ap _ _ zc' (by decide +kernel)), e1 (ap _ _ zc' (by decide +kernel)), e1 (ap _ _ (by decide +kernel) zc'), fun v h => by cases h⟩
  · refine ⟨by decide, fun p hp => ⟨r, p, _, rfl, D3.rg.ex (Ex.new hp), D3.rg.ne hp, SqL.of upd_same, by simp, by simp, fun v H4 hv d4 => ⟨by decide, fun q hq => ⟨r, q, _, rfl, d4.rg.ex (Ex.new hq), d4.rg.ne hq, SqL.of upd_same, by simp, by simp, fun u H5 hu d5 => ?_⟩⟩⟩⟩
    have hv' : ∃ y : Str, v = .str y ∧ (cs y).length = 1 ∧ ∀ c ∈ cs y, c < 128 := by
      have h : ∀ v ∈ [V.str "a", V.str "Z", V.str " ", V.str "(", V.str "0"], ∃ y : Str, v = .str y ∧ (cs y).length = 1 ∧ ∀ c ∈ cs y, c < 128 := by
        simp only [List.forall_mem_cons]
        exact ⟨⟨_, rfl, by decide +kernel, by decide +kernel⟩, ⟨_, rfl, by decide +kernel, by decide +kernel⟩, ⟨_, rfl, by decide +kernel, by decide +kernel⟩, ⟨_, rfl, by decide +kernel, by decide +kernel⟩, ⟨_, rfl, by decide +kernel, by decide +kernel⟩, fun v h => by cases h⟩
      exact h v hv
    have hu' : ∃ n : Int, u = .int n ∧ 0 ≤ n ∧ n ≤ 62 := by
      have h : ∀ u ∈ [V.int 59, V.int 60, V.int 61, V.int 62, V.int 8, V.int 9], ∃ n : Int, u = .int n ∧ 0 ≤ n ∧ n ≤ 62 := by
        simp only [List.forall_mem_cons]
        exact ⟨⟨_, rfl, by decide, by decide⟩, ⟨_, rfl, by decide, by decide⟩, ⟨_, rfl, by decide, by decide⟩, ⟨_, rfl, by decide, by decide⟩, ⟨_, rfl, by decide, by decide⟩, ⟨_, rfl, by decide, by decide⟩, fun v h => by cases h⟩
      exact h u hu
    obtain ⟨y, rfl, hy, hy2⟩ := hv'
    obtain ⟨n, rfl, n0, n1⟩ := hu'
    refine ⟨y, rfl, n, rfl, n0, by omega, by rw [hy]; omega, hQ _ _ ⟨?_, fun c hc => hy2 c (repS_mem hc)⟩ (((D3.ex (Ex.new hp)).trans d4).trans ((Dr.refl d4.rg).ex (Ex.new hq) |>.trans d5))⟩
    rw [repS_len, hy]
    omega
  · refine ⟨sz2 _ _ zl' (by decide +kernel), sz2 _ _ (by decide +kernel) zl', sz2 _ _ ?_ (by decide +kernel), by decide, by decide, by decide +kernel, by decide +kernel, sz2 _ _ zl' (by decide +kernel), by decide, fun p hp => fz p _ hp (by simp) (by simp) ?_⟩
    · rw [cs_len, cs_app_len]
      have : (cs ("'" : Str)).length = 1 := by decide +kernel
      rw [this]; omega
    · simp only [List.forall_mem_cons]
      refine ⟨e1 (by decide +kernel), e1 (ap _ _ zc' (by decide +kernel)), e1 (ap _ _ ⟨?_, fun c hc => ?_⟩ (by decide +kernel)), e1 (by decide +kernel), e1 (ap _ _ zc' (by decide +kernel)), fun v h => by cases h⟩
      · rw [cs_app_len]
        have : (cs ("'" : Str)).length = 1 := by decide +kernel
        rw [this]; omega
      · rw [cs_app] at hc
        have q : ∀ c ∈ cs ("'" : Str), c < 128 := by decide +kernel
        exact (List.mem_append.mp hc).elim (q c) (zc'.2 c)
  · refine ⟨by decide, fun p hp => fz p _ hp (by simp) (by simp) ?_⟩
    simp only [List.forall_mem_cons]
    exact ⟨e1 (by decide +kernel), e1 (by decide +kernel), e1 (by decide +kernel), e1 (by decide +kernel), e1 (by decide +kernel), e1 (by decide +kernel), e1 (by decide +kernel), e1 (by decide +kernel), e1 (by decide +kernel), e1 (by decide +kernel), fun v h => by cases h⟩
  · refine ⟨r, 7, rfl, D3.rg, by decide, fun y H4 hy hy2 d4 => ⟨r, 3, rfl, d4.rg, by decide, by decide, fun n H5 n0 n1 d5 => ?_⟩⟩
    obtain ⟨n, rfl⟩ := Int.eq_ofNat_of_zero_le n0
    refine ⟨r, n, rfl, d5.rg, by omega, fun u H6 hu hu2 d6 => ⟨y, rfl, u, rfl, sz2 _ _ ?_ ?_, hQ _ _ (ap _ _ ?_ ?_) (((D3.trans d4).trans d5).trans d6)⟩⟩
    · rw [cs_len]; omega
    · rw [cs_len]; omega
    · exact ⟨by omega, fun c hc => lets128 c (hy2 c hc)⟩
    · exact ⟨by omega, fun c hc => lets128 c (hu2 c hc)⟩
end
end K11

set_option Elab.async false
set_option linter.all false
set_option maxRecDepth 100000
set_option maxHeartbeats 4000000
namespace K11
open PySem PySem.Spec PyProof.Rows L2 Ab
local macro_rules | `(tactic| walk_at "rd") => `(tactic| simp only [start_eq, List.map_cons, List.map_nil, List.length_cons, List.length_nil, List.replicate_succ, List.replicate_zero, List.cons_append, List.nil_append, Nat.reduceSub, Nat.reduceAdd, Nat.zero_add,
  tSeq, tAsg, tIf, tTest, tOp, tVar, tCB, tCons, tNil, tC, gName, tRet, tLst, tTup, tIfS, tDrop, tB, tAnd, tOr, tNot, tAndV, tOrV, tNotV, tUn, tNext, tNever, gTup, gSub, gCons, gNil, rSetL, tPar, rCat, rRep, rAppend, rAll, rAny, tM1, tBM, tBM0, tDisp, tPairs, rIn, tChain, tPart, tFld, tFmt, tJs, rRepS, tFor_eq, tLc_eq, iRng1, iRng2, iList, iTup, iStr, rI0, rI, rU, rIxL, rIxT, rIxS, tO, gPos, StX.tMakeR, tDNewK, sFld, ClX.tCVal, rSortedS, rEq, rNe, scal_ii, scal_ss, scal_bb, scal_nn, scal_is, scal_si, cx_K, cx_Kn,
  V.int.injEq, V.ref.injEq, V.str.injEq, V.bl.injEq, List.cons.injEq, Bool.not_eq_true', decide_eq_true_eq, decide_eq_false_iff_not, if_true, if_false, Bool.not_true, Bool.not_false, Bool.false_eq_true, not_true_eq_false, not_false_eq_true, and_assoc, and_true, true_and, exists_eq_left', exists_eq_left, exists_and_left, reduceCtorEq, false_and, and_false, exists_false, or_false, false_or,
  List.getElem?_cons_zero, List.getElem?_cons_succ, Option.some.injEq, List.set_cons_zero, List.set_cons_succ])
local macro_rules | `(tactic| walk_at "rk") => `(tactic| simp only [start_eq, List.map_cons, List.map_nil, List.length_cons, List.length_nil, List.replicate_succ, List.replicate_zero, List.cons_append, List.nil_append, Nat.reduceSub, Nat.reduceAdd, Nat.zero_add,
  tSeq, tAsg, tTest, tOp, tVar, tCB, tCons, tNil, tC, gName, tRet, tLst, tTup, tIfS, tDrop, tB, tAnd, tOr, tNot, tNotV, tUn, tNext, tNever, gTup, gSub, gCons, gNil, rSetL, tPar, rCat, rRep, rAppend, rAll, rAny, tM1, tBM, tBM0, tDisp, tPairs, rIn, tChain, tPart, tFld, tFmt, tJs, rRepS, tFor_eq, tLc_eq, iRng1, iRng2, iList, iTup, iStr, rI0, rI, rU, rIxL, rIxT, rIxS, tO, gPos, StX.tMakeR, tDNewK, sFld, ClX.tCVal, rSortedS, rEq, rNe, scal_ii, scal_ss, scal_bb, scal_nn, scal_is, scal_si, cx_K, cx_Kn,
  V.int.injEq, V.ref.injEq, V.str.injEq, V.bl.injEq, List.cons.injEq, Bool.not_eq_true', decide_eq_true_eq, decide_eq_false_iff_not, if_true, if_false, Bool.not_true, Bool.not_false, Bool.false_eq_true, not_true_eq_false, not_false_eq_true, and_assoc, and_true, true_and, exists_eq_left', exists_eq_left, exists_and_left, reduceCtorEq, false_and, and_false, exists_false, or_false, false_or,
  List.getElem?_cons_zero, List.getElem?_cons_succ, Option.some.injEq, List.set_cons_zero, List.set_cons_succ])
/-- marks without doubles, as they come -/
def dd (zs : List Str) : List Str := zs.foldl (fun acc z => if z ∈ acc then acc else acc ++ [z]) []
theorem dd_step (zs : List Str) (z : Str) : dd (zs ++ [z]) = if z ∈ dd zs then dd zs else dd zs ++ [z] := by
  unfold dd
  rw [List.foldl_append]
  rfl
theorem dd_len (zs : List Str) : (dd zs).length ≤ zs.length := by
  have : ∀ (zs acc : List Str), (zs.foldl (fun acc z => if z ∈ acc then acc else acc ++ [z]) acc).length ≤ acc.length + zs.length := by
    intro zs
    induction zs with
    | nil => intro acc; simp
    | cons z zs ih =>
      intro acc
      rw [List.foldl_cons]
      refine Nat.le_trans (ih _) ?_
      split
      · simp
      · simp; omega
  have := this zs []
  simpa [dd] using this
def spMarks (K : PySem.W.Frag) : Sp := fun vs H Q _ => ∃ (p : Addr) (zs : List Str), vs = [.ref p] ∧ SqT K H p (zs.map V.str) ∧ (∀ z ∈ zs, isNm (.str z) = true) ∧ zs.length ≤ 60 ∧
  ∀ (D : Addr) (ys : List Str) (H' : Hp), H D = none → Ex H H' → H' D = some (.lst (ys.map V.str)) → ys.Perm (dd zs) → sortedS ys = true → Q (.ref D) H'
theorem inV_str (z : Str) (ys : List Str) : inV (.str z) (ys.map V.str) = decide (z ∈ ys) := by
  unfold inV
  rw [List.any_map]
  induction ys with
  | nil => simp
  | cons y ys ih =>
    rw [List.any_cons, ih]
    show ((y == z) || decide (z ∈ ys)) = decide (z ∈ y :: ys)
    by_cases h : y = z
    · subst h
      rw [beq_self_eq_true, Bool.true_or, decide_eq_true (List.mem_cons_self ..)]
    · rw [beq_false_of_ne h, Bool.false_or]
      refine decide_eq_decide.mpr ⟨fun q => List.mem_cons_of_mem _ q, fun q => ?_⟩
      rcases List.mem_cons.mp q with q | q
      · exact absurd q.symm h
      · exact q
section
variable {P : Program} {w : World} {K : PySem.W.Frag} {mg : Str → Option Value} {base : Heap}
theorem ok_marks_in_order (T : Txt K mg) : Fo false P w K mg base CX0 2 d_marks_in_order ["marks"] (spMarks K) := by
  obtain ⟨fd, F⟩ := T.dfn 5 (d := d_marks_in_order)
  refine ⟨fd, Fq.mk' F sc_marks_in_order (fun vs H Q E h => ?_) (fun cdv A outer s H vs Q E hg hr h => ?_), F⟩
  · obtain ⟨p, zs, rfl, _⟩ := h
    rfl
  obtain ⟨p, zs, rfl, hS, hN, hl, hQ⟩ := h
  refine ⟨_, (PSs.nox (pss_cons (ps_set (i := 1) sc_marks_in_order.nd rfl (Or.inl rfl) (pe_lst pa_nil))
      (pss_cons (ps_for PassesOwn.never rfl (pi_tup (pv 0)) (pg_name (i := 2) sc_marks_in_order.nd rfl (Or.inl rfl)) (pss_cons (ps_if (pt_not (pt_val (pe_o (ok_is_name T) (T.glo 14) (b_is_name) gd_false (hr.mono (by decide)) rfl pass0 (pa_cons (pv 2) pa_nil)))) (pss_one ps_never) pss_nil)
      (pss_one (ps_if (pt_cmpR op_notIn_seq (pv 2) (pv 1) (by rfl)) (pss_one (ps_expr (pe_bm PySem.F.plainAttrs_list PySem.F.slot_list_append PySem.F.type_list_append mt_append (pv 1) (pa_cons (pv 2) pa_nil)))) pss_nil))))
      (pss_one (ps_ret (pe_callB cr_sortedS rfl (T.free 44) (by decide +kernel) (pa_cons (pv 1) pa_nil))))))), ?_⟩
  walk_at "rd"
  refine ⟨by decide, fun d hd => ⟨⟨_, ex_seqT (Ex.new hd) hS⟩, ?_⟩⟩
  refine for_f (walk_tup (xs := zs.map V.str)) (fun i σ H' => ∃ k, σ = [some (.ref p), some (.ref d), k] ∧ Ex H H' ∧ H' d = some (.lst ((dd (zs.take i)).map V.str))) ⟨none, rfl, Ex.new hd, upd_same⟩ (fun i σ H' _ h => by obtain ⟨_, _, e, _⟩ := h; exact ex_seqT e hS) ?_ ?_
  · rintro i x σ H1 H2 hi ⟨k, rfl, e1, h1⟩ ⟨rfl, hx⟩
    walk_at "rd"
    rw [List.length_map] at hi
    have hz : x = .str zs[i] := by
      rw [List.getElem?_map, List.getElem?_eq_getElem hi] at hx
      exact (Option.some.inj hx).symm
    subst hz
    have hn := hN _ (List.getElem_mem hi)
    have hlen : ((dd (zs.take i)).map V.str).length ≤ 60 := by
      rw [List.length_map]
      have := dd_len (zs.take i)
      rw [List.length_take] at this
      omega
    have hstep : dd (zs.take (i + 1)) = if zs[i] ∈ dd (zs.take i) then dd (zs.take i) else dd (zs.take i) ++ [zs[i]] := by
      rw [List.take_succ_eq_append_getElem hi, dd_step]
    have hty : Ty K H2 (.str zs[i]) := by
      have : (decide (1 ≤ (cs zs[i]).length) && (decide ((cs zs[i]).length ≤ 8) && (cs zs[i]).all fun c => decide (c ∈ cs lets))) = true := hn
      simp only [Bool.and_eq_true, decide_eq_true_eq] at this
      show (cs zs[i]).length ≤ 1000
      omega
    refine ⟨_, rfl, hty, fun H3 e3 => ⟨_, rfl, (if_neg (by rw [hn]; decide)).mpr ⟨_, Or.inl (SqL.of (e3 _ _ h1)), rfl, by simp [flatV], ?_⟩⟩⟩
    rw [inV_str, hstep]
    refine ite2 (fun h => ⟨.inl ⟨rfl, _, SqL.of (e3 _ _ h1)⟩, _, e3 _ _ h1, Nat.lt_of_le_of_lt hlen (by decide), Ex.keep (e1.trans e3) hd, ?_⟩) (fun h => ⟨e1.trans e3, ?_⟩)
    · rw [upd_same, if_neg (of_decide_eq_false h), List.map_append]
      rfl
    · rw [if_pos (by simpa using h)]
      exact e3 _ _ h1
  · rintro σ H1 ⟨k, rfl, e1, h1⟩
    walk_at "rd"
    rw [List.length_map, List.take_length] at h1
    exact ⟨_, SqL.of h1, Nat.lt_of_le_of_lt (dd_len zs) (by omega), fun ys q hp hs hq => hQ q ys _ (e1.free hq) (e1.trans (Ex.new hq)) upd_same hp hs⟩
/-- an instance of Label, its marks sorted -/
def LabAt (K : PySem.W.Frag) (H : Hp) (a : Addr) (ms : List Str) : Prop := ∃ dx t, H a = some (.ins (He.ga K "Label") dx [("own_marks", .ref t)]) ∧ H t = some (.tup (ms.map V.str)) ∧
  ms.length ≤ 4 ∧ (∀ z ∈ ms, isNm (.str z) = true)
def spLabI (K : PySem.W.Frag) : Sp := fun vs H Q _ => ∃ (a dx p : Addr) (zs : List Str), vs = [.ref a, .ref p] ∧ H a = some (.ins (He.ga K "Label") dx []) ∧ SqT K H p (zs.map V.str) ∧ (∀ z ∈ zs, isNm (.str z) = true) ∧ zs.length ≤ 4 ∧
  ∀ (t : Addr) (ms : List Str) (H' : Hp), H t = none → (∀ b o, b ≠ a → H b = some o → H' b = some o) → H' a = some (.ins (He.ga K "Label") dx [("own_marks", .ref t)]) → H' t = some (.tup (ms.map V.str)) →
    ms.Perm (dd zs) → sortedS ms = true → Q .non H'
theorem label_facts (T : Txt K mg) : Cls K (He.ga K "Label") ∧ Mk K (He.ga K "Label") (He.ma K (He.ga K "Label") "__init__") ∧ NoAttr K (He.ga K "Label") "own_marks" ∧ ClX.CRead K (He.ga K "Label") (.type "type") ∧ (∃ u, ClX.CVal K (He.ga K "Label") (.type "type") "MOST" (.int 4) u) := by
  have m := (He.ba T.c.more).2
  have m := (He.ba m).2
  have m := (He.ba m).2
  have m := (He.ba m).2
  have m := (He.ba m).2
  exact ⟨He.cls_ok (T.fact 56), He.mkr_ok (T.fact 57), He.noat_ok (T.fact 59), readB_ok (He.ba m).1, cvalB_ok (He.ba m).2⟩
theorem ok_Label_init (T : Txt K mg) : FnR P w K mg base CX0 3 (He.fAd K d_Label_init.at_) (fun vs H Q E => ∃ (a : V) (rest : List V), vs = a :: rest ∧ rest.length ≤ sizeLine ∧ ∀ p, H p = none → spLabI K [a, .ref p] (upd H p (.tup rest)) Q E) := by
  obtain ⟨fd, F⟩ := T.dfn 6 (d := d_Label_init)
  refine fn_star1 F sc_Label_init StX.cxUp_none (fun _ _ _ _ _ _ _ => rfl) (fun _ _ _ _ _ _ _ _ _ => rfl) (fun cdv A outer s H vs Q E hr h => ?_)
  obtain ⟨a, dx, p, zs, rfl, hA, hS, hN, hl, hQ⟩ := h
  obtain ⟨fc, fm, fn, fr, u, fv⟩ := label_facts T
  refine ⟨_, (PSs.nox (pss_cons (ps_set (i := 2) sc_Label_init.nd rfl (Or.inl rfl) (pe_o (ok_marks_in_order T) (T.glo 19) (b_marks_in_order) gd_false (hr.mono (by decide)) rfl pass0 (pa_cons (pv 1) pa_nil)))
      (pss_cons (ps_if (pt_cmpR op_gt (pe_callB call_len_seq rfl (T.free 48) (by decide +kernel) (pa_cons (pv 2) pa_nil)) (ClX.pe_cval (pe_gr rfl (T.glo 20))) (nomark _)) (pss_one ps_never) pss_nil)
      (pss_one (ps_fld (pv 0) (pe_callTy call_tuple_of rfl (T.free 47) (by decide +kernel) (pa_cons (pv 2) pa_nil)) rfl))))), ?_⟩
  walk_at "rd"
  refine ⟨p, zs, rfl, hS, hN, by omega, fun D ys H1 hD e1 h1 hp hs => ⟨D, rfl, _, .inl (SqL.of h1), _, fr, _, _, fv, _, rfl, (if_neg ?_).mpr ⟨D, rfl, _, .inl ⟨SqL.of h1, fun l hl => ⟨_, _, _, (upd_ne (ne_of_none (e1 _ _ hA) hl)).trans (e1 _ _ hA), fc, fn, by simp, ?_⟩⟩⟩⟩⟩
  · have := hp.length_eq
    have := dd_len zs
    rw [List.length_map]
    omega
  · have nl : l ≠ a := (ne_of_none (e1 _ _ hA) hl).symm
    refine hQ l ys _ (e1.free hl) (fun b o n h => ?_) upd_same ?_ hp hs
    · rw [upd_ne n]
      exact Ex.new hl _ _ (e1 _ _ h)
    · rw [upd_ne nl, upd_same]
end
end K11

set_option Elab.async false
set_option linter.all false
set_option maxRecDepth 100000
set_option maxHeartbeats 4000000
namespace K11
open PySem PySem.Spec PyProof.Rows L2 Ab
local macro_rules | `(tactic| walk_at "rd") => `(tactic| simp only [start_eq, List.map_cons, List.map_nil, List.length_cons, List.length_nil, List.replicate_succ, List.replicate_zero, List.cons_append, List.nil_append, Nat.reduceSub, Nat.reduceAdd, Nat.zero_add,
  tSeq, tAsg, tIf, tTest, tOp, tVar, tCB, tCons, tNil, tC, gName, tRet, tLst, tTup, tIfS, tDrop, tB, tAnd, tOr, tNot, tAndV, tOrV, tNotV, tUn, tNext, tNever, gTup, gSub, gCons, gNil, rSetL, tPar, rCat, rRep, rAppend, rAll, rAny, tM1, tBM, tBM0, tDisp, tPairs, rIn, tChain, tPart, tFld, tFmt, tJs, rRepS, tFor_eq, tLc_eq, iRng1, iRng2, iList, iTup, iStr, rI0, rI, rU, rIxL, rIxT, rIxS, tO, gPos, StX.tMakeR, tDNewK, sFld, ClX.tCVal, rSortedS, rEq, rNe, scal_ii, scal_ss, scal_bb, scal_nn, scal_is, scal_si, cx_K, cx_Kn,
  V.int.injEq, V.ref.injEq, V.str.injEq, V.bl.injEq, List.cons.injEq, Bool.not_eq_true', decide_eq_true_eq, decide_eq_false_iff_not, if_true, if_false, Bool.not_true, Bool.not_false, Bool.false_eq_true, not_true_eq_false, not_false_eq_true, and_assoc, and_true, true_and, exists_eq_left', exists_eq_left, exists_and_left, reduceCtorEq, false_and, and_false, exists_false, or_false, false_or,
  List.getElem?_cons_zero, List.getElem?_cons_succ, Option.some.injEq, List.set_cons_zero, List.set_cons_succ])
local macro_rules | `(tactic| walk_at "rk") => `(tactic| simp only [start_eq, List.map_cons, List.map_nil, List.length_cons, List.length_nil, List.replicate_succ, List.replicate_zero, List.cons_append, List.nil_append, Nat.reduceSub, Nat.reduceAdd, Nat.zero_add,
  tSeq, tAsg, tTest, tOp, tVar, tCB, tCons, tNil, tC, gName, tRet, tLst, tTup, tIfS, tDrop, tB, tAnd, tOr, tNot, tNotV, tUn, tNext, tNever, gTup, gSub, gCons, gNil, rSetL, tPar, rCat, rRep, rAppend, rAll, rAny, tM1, tBM, tBM0, tDisp, tPairs, rIn, tChain, tPart, tFld, tFmt, tJs, rRepS, tFor_eq, tLc_eq, iRng1, iRng2, iList, iTup, iStr, rI0, rI, rU, rIxL, rIxT, rIxS, tO, gPos, StX.tMakeR, tDNewK, sFld, ClX.tCVal, rSortedS, rEq, rNe, scal_ii, scal_ss, scal_bb, scal_nn, scal_is, scal_si, cx_K, cx_Kn,
  V.int.injEq, V.ref.injEq, V.str.injEq, V.bl.injEq, List.cons.injEq, Bool.not_eq_true', decide_eq_true_eq, decide_eq_false_iff_not, if_true, if_false, Bool.not_true, Bool.not_false, Bool.false_eq_true, not_true_eq_false, not_false_eq_true, and_assoc, and_true, true_and, exists_eq_left', exists_eq_left, exists_and_left, reduceCtorEq, false_and, and_false, exists_false, or_false, false_or,
  List.getElem?_cons_zero, List.getElem?_cons_succ, Option.some.injEq, List.set_cons_zero, List.set_cons_succ])
theorem ch {K : PySem.W.Frag} {r p : Addr} {H : Hp} {xs : List V} {Q : VK} (hR : Rng r H) (hp : H p = none) (h0 : xs ≠ []) (hl : xs.length ≤ 1000) (h : ∀ v ∈ xs, ∀ H', Dr r H H' → H' p = some (.lst xs) → (∀ b o, b ≠ r → H b = some o → H' b = some o) → Q v H') :
    spChoice K [.ref r, .ref p] (upd H p (.lst xs)) Q E0 :=
  ⟨r, p, xs, rfl, hR.ex (Ex.new hp), hR.ne hp, SqL.of upd_same, h0, by omega, fun v H4 hv d4 => h v hv H4 ((Dr.new hR hp).trans d4) (d4.get (hR.ne hp) upd_same) (fun b o n q => ((Dr.new (o := .lst xs) hR hp).trans d4).fx b o n q)⟩
section
variable {P : Program} {w : World} {K : PySem.W.Frag} {mg : Str → Option Value} {base : Heap}
theorem ok_law_number (T : Txt K mg) : Fo false P w K mg base CX0 3 d_law_number ["_law_rng_here"] spNumber := by
  obtain ⟨fd, F⟩ := T.dfn 20 (d := d_law_number)
  refine ⟨fd, Fq.mk' F sc_law_number (fun vs H Q E h => ?_) (fun cdv A outer s H vs Q E hg hr h => ?_), F⟩
  · obtain ⟨r, rfl, _⟩ := h
    rfl
  obtain ⟨r, rfl, hR, hQ⟩ := h
  refine ⟨_, (PSs.nox (pss_cons (ps_set (i := 1) sc_law_number.nd rfl (Or.inl rfl) (pe_o (ok_law_digits T) (T.glo 25) (b_law_digits) gd_false (hr.mono (by decide)) rfl pass0 (pa_cons (pv 0) (pa_cons (pe_o (ok_law_choice T) (T.glo 23) (b_law_choice) gd_false (hr.mono (by decide)) rfl pass0 (pa_cons (pv 0) (pa_cons (pe_lst (pa_cons pe_int (pa_cons pe_int (pa_cons pe_int (pa_cons pe_int (pa_cons (pe_op op_add pe_int (pe_o (ok_law_draw T) (T.glo 22) (b_law_draw) gd_false (hr.mono (by decide)) rfl pass0 (pa_cons (pv 0) (pa_cons pe_int pa_nil)))) pa_nil)))))) pa_nil))) pa_nil))))
      (pss_cons (ps_set (i := 2) sc_law_number.nd rfl (Or.inl rfl) (pe_o (ok_law_choice T) (T.glo 23) (b_law_choice) gd_false (hr.mono (by decide)) rfl pass0 (pa_cons (pv 0) (pa_cons (pe_lst (pa_cons (pe_op op_sub (pe_op op_pow pe_int pe_int) pe_int) (pa_cons (pe_op op_pow pe_int pe_int) (pa_cons (pe_op op_sub (pe_op op_pow pe_int pe_int) pe_int) (pa_cons (pe_op op_add (pe_op op_pow pe_int pe_int) pe_int) pa_nil))))) pa_nil))))
      (pss_one (ps_ret (pe_op op_mul (pe_o (ok_law_choice T) (T.glo 23) (b_law_choice) gd_false (hr.mono (by decide)) rfl pass0 (pa_cons (pv 0) (pa_cons (pe_lst (pa_cons pe_int (pa_cons pe_int (pa_cons pe_int (pa_cons (pv 1) (pa_cons (pv 2) pa_nil)))))) pa_nil))) (pe_o (ok_law_choice T) (T.glo 23) (b_law_choice) gd_false (hr.mono (by decide)) rfl pass0 (pa_cons (pv 0) (pa_cons (pe_lst (pa_cons pe_int (pa_cons pe_int (pa_cons (pe_un un_neg pe_int) pa_nil)))) pa_nil))))))))), ?_⟩
  walk_at "rd"
  have cp : CPow 10 30 := ⟨by decide, by decide, by decide⟩
  refine ⟨r, 40, rfl, hR, by decide, by decide, fun k H1 k0 k1 d1 => ⟨k, rfl, by decide, fun p1 hp1 => ch d1.rg hp1 (by simp) (by simp) ?_⟩⟩
  obtain ⟨k, rfl⟩ := Int.eq_ofNat_of_zero_le k0
  have k2 : k < 40 := by omega
  have hn : ∀ v ∈ [V.int 29, V.int 30, V.int 31, V.int 40, V.int (1 + (k : Int))], ∃ n : Nat, v = .int (n : Int) ∧ n ≤ 40 := by
    simp only [List.forall_mem_cons]
    exact ⟨⟨29, rfl, by decide⟩, ⟨30, rfl, by decide⟩, ⟨31, rfl, by decide⟩, ⟨40, rfl, by decide⟩, ⟨1 + k, by simp, by omega⟩, fun v h => by cases h⟩
  intro v hv H2 d2 _ _
  obtain ⟨n, rfl, hn⟩ := hn v hv
  refine ⟨r, n, rfl, d2.rg, hn, fun i H3 i0 i1 d3 => ⟨cp, cp, cp, cp, by decide, fun p2 hp2 => ch d3.rg hp2 (by simp) (by simp) fun e he H4 d4 _ _ => ?_⟩⟩
  have he' : ∃ j : Int, e = .int j ∧ 0 ≤ j ∧ j < 10 ^ 41 := by
    have h : ∀ e ∈ [V.int (10 ^ Int.toNat 30 - 1), V.int (10 ^ Int.toNat 30), V.int (10 ^ Int.toNat 30 - 2), V.int (10 ^ Int.toNat 30 + 1)], ∃ j : Int, e = .int j ∧ 0 ≤ j ∧ j < 10 ^ 41 := by
      simp only [List.forall_mem_cons]
      exact ⟨⟨_, rfl, by decide, by decide⟩, ⟨_, rfl, by decide, by decide⟩, ⟨_, rfl, by decide, by decide⟩, ⟨_, rfl, by decide, by decide⟩, fun v h => by cases h⟩
    exact h e he
  obtain ⟨j, rfl, j0, j1⟩ := he'
  refine ⟨by decide, fun p3 hp3 => ch d4.rg hp3 (by simp) (by simp) fun x hx H5 d5 _ _ => ?_⟩
  have hx' : ∃ m : Int, x = .int m ∧ 0 ≤ m ∧ m < 10 ^ 41 := by
    have h : ∀ x ∈ [V.int 0, V.int 1, V.int 2, V.int i, V.int j], ∃ m : Int, x = .int m ∧ 0 ≤ m ∧ m < 10 ^ 41 := by
      simp only [List.forall_mem_cons]
      exact ⟨⟨_, rfl, by decide, by decide⟩, ⟨_, rfl, by decide, by decide⟩, ⟨_, rfl, by decide, by decide⟩, ⟨_, rfl, i0, i1⟩, ⟨_, rfl, j0, j1⟩, fun v h => by cases h⟩
    exact h x hx
  obtain ⟨m, rfl, m0, m1⟩ := hx'
  refine ⟨by decide, fun p4 hp4 => ch d5.rg hp4 (by simp) (by simp) fun y hy H6 d6 _ _ => ?_⟩
  have hy' : y = .int 1 ∨ y = .int (-1) := by
    have h : ∀ y ∈ [V.int 1, V.int 1, V.int (-1)], y = .int 1 ∨ y = .int (-1) := by
      simp only [List.forall_mem_cons]
      exact ⟨.inl trivial, .inl trivial, .inr trivial, fun v h => by cases h⟩
    exact h y hy
  have D6 := ((((d1.trans d2).trans d3).trans d4).trans d5).trans d6
  rcases hy' with rfl | rfl
  · refine ⟨m, rfl, 1, rfl, .inr ⟨by decide, by decide⟩, hQ _ _ ?_ D6⟩
    rw [Int.mul_one]
    omega
  · refine ⟨m, rfl, -1, rfl, .inr ⟨by decide, by decide⟩, hQ _ _ ?_ D6⟩
    omega
theorem al {H X : Hp} {p : Addr} {o : HO} (hp : H p = none) (e : upd H p o = X) : Ex H X ∧ X p = some o := by
  subst e
  exact ⟨Ex.new hp, upd_same⟩
theorem dd_mem {zs : List Str} {y : Str} (h : y ∈ dd zs) : y ∈ zs := by
  have : ∀ (zs acc : List Str), y ∈ (zs.foldl (fun acc z => if z ∈ acc then acc else acc ++ [z]) acc) → y ∈ acc ∨ y ∈ zs := by
    intro zs
    induction zs with
    | nil => intro acc h; exact .inl h
    | cons z zs ih =>
      intro acc h
      rw [List.foldl_cons] at h
      rcases ih _ h with h | h
      · split at h
        · exact .inl h
        · rcases List.mem_append.mp h with h | h
          · exact .inl h
          · exact .inr (by rw [List.mem_singleton.mp h]; exact List.mem_cons_self ..)
      · exact .inr (List.mem_cons_of_mem _ h)
  rcases this zs [] h with h | h
  · cases h
  · exact h
/-- Label(..) of names -/
theorem lab_new {X : Hp} {a dx q : Addr} {zs : List Str} {Q : VK} (na : X a = none) (nd : X dx = none) (nad : dx ≠ a) (nq : upd (upd X dx (.own a)) a (.ins (He.ga K "Label") dx []) q = none)
    (hN : ∀ z ∈ zs, isNm (.str z) = true) (hl : zs.length ≤ 4)
    (h : ∀ (t : Addr) (ms : List Str) (X' : Hp), Ex X X' → X' a = some (.ins (He.ga K "Label") dx [("own_marks", .ref t)]) → X t = none → X' t = some (.tup (ms.map V.str)) → (ms.length ≤ 4 ∧ ∀ z ∈ ms, isNm (.str z) = true) → Q .non X') :
    spLabI K [.ref a, .ref q] (upd (upd (upd X dx (.own a)) a (.ins (He.ga K "Label") dx [])) q (.tup (zs.map V.str))) Q E0 := by
  obtain ⟨nqa, nq'⟩ := upd_none nq
  refine ⟨a, dx, q, zs, rfl, (upd_ne nqa.symm).trans upd_same, SqT.of upd_same, hN, hl, fun t ms X' ht keep ha hT hp hs => h t ms X' (fun b o e => ?_) ha ?_ hT ⟨?_, fun z hz => hN z (dd_mem (hp.mem_iff.mp hz))⟩⟩
  · have nba : b ≠ a := ne_of_none e na
    have nbd : b ≠ dx := ne_of_none e nd
    have nbq : b ≠ q := fun z => by
      rw [← z, upd_ne nbd, e] at nq'
      cases nq'
    refine keep b o nba ?_
    rw [upd_ne nbq, upd_ne nba, upd_ne nbd]
    exact e
  · exact (upd_none (upd_none (upd_none ht).2).2).2
  · rw [hp.length_eq]
    exact Nat.le_trans (dd_len zs) hl
/-- flat things -/
def Fl : V → Prop
  | .non => True
  | .int i => i.natAbs < 10 ^ 42
  | .str z => Gn 200 z
  | _ => False
/-- what the law draws, new since B -/
def Tg (K : PySem.W.Frag) (B H : Hp) : V → Prop
  | .non => True
  | .bl _ => True
  | .int i => i.natAbs < 10 ^ 42
  | .str z => Gn 200 z
  | .ref a => B a = none ∧ ((∃ xs, H a = some (.lst xs) ∧ xs.length ≤ 1 ∧ ∀ x ∈ xs, Fl x) ∨ (∃ xs, H a = some (.tup xs) ∧ xs.length ≤ 1 ∧ ∀ x ∈ xs, Fl x) ∨
      (∃ kvs : List (Key × V), H a = some (.dK kvs) ∧ (kvs = [] ∨ ∃ z : Str, kvs = [(Sum.inr z, .int 1)] ∧ Gn 200 z)) ∨
      (∃ (dx t : Addr) (ms : List Str), H a = some (.ins (He.ga K "Label") dx [("own_marks", .ref t)]) ∧ B t = none ∧ H t = some (.tup (ms.map V.str)) ∧ ms.length ≤ 4 ∧ ∀ z ∈ ms, isNm (.str z) = true))
  | _ => False
theorem Tg.mono {B H H' : Hp} {v : V} (k : Kp B H H') (h : Tg K B H v) : Tg K B H' v := by
  cases v with
  | ref a =>
    obtain ⟨b0, h⟩ := h
    refine ⟨b0, ?_⟩
    rcases h with ⟨xs, h1, h2⟩ | ⟨xs, h1, h2⟩ | ⟨kvs, h1, h2⟩ | ⟨dx, t, ms, h1, h2, h3, h4⟩
    · exact .inl ⟨xs, k _ _ b0 h1, h2⟩
    · exact .inr (.inl ⟨xs, k _ _ b0 h1, h2⟩)
    · exact .inr (.inr (.inl ⟨kvs, k _ _ b0 h1, h2⟩))
    · exact .inr (.inr (.inr ⟨dx, t, ms, k _ _ b0 h1, h2, k _ _ h2 h3, h4⟩))
  | _ => exact h
theorem Tg.weak {B B' H : Hp} {v : V} (k : ∀ b, B b = none → B' b = none) (h : Tg K B H v) : Tg K B' H v := by
  cases v with
  | ref a =>
    obtain ⟨b0, h⟩ := h
    refine ⟨k _ b0, ?_⟩
    rcases h with h | h | h | ⟨dx, t, ms, h1, h2, h3⟩
    · exact .inl h
    · exact .inr (.inl h)
    · exact .inr (.inr (.inl h))
    · exact .inr (.inr (.inr ⟨dx, t, ms, h1, k _ h2, h3⟩))
  | _ => exact h
theorem Tg.ty (T : Txt K mg) {B H : Hp} {v : V} (h : Tg K B H v) : Ty K H v := by
  cases v with
  | ref a =>
    obtain ⟨_, h⟩ := h
    rcases h with ⟨xs, h1, _⟩ | ⟨xs, h1, _⟩ | ⟨kvs, h1, _⟩ | ⟨dx, t, ms, h1, _⟩
    · exact ⟨_, .base (.lst h1), kit_ty (show kitB "list" "int" = some false by decide +kernel), kit_ty (show kitB "list" "str" = some false by decide +kernel), kit_ty (show kitB "list" "bool" = some false by decide +kernel)⟩
    · exact ⟨_, .base (.tup h1), kit_ty (show kitB "tuple" "int" = some false by decide +kernel), kit_ty (show kitB "tuple" "str" = some false by decide +kernel), kit_ty (show kitB "tuple" "bool" = some false by decide +kernel)⟩
    · exact ⟨_, .base (.dK h1), kit_ty (show kitB "dict" "int" = some false by decide +kernel), kit_ty (show kitB "dict" "str" = some false by decide +kernel), kit_ty (show kitB "dict" "bool" = some false by decide +kernel)⟩
    · have m := (He.ba T.c.more).2
      obtain ⟨m1, m⟩ := He.ba m
      obtain ⟨m2, m⟩ := He.ba m
      obtain ⟨m3, m⟩ := He.ba m
      obtain ⟨m4, _⟩ := He.ba m
      exact ⟨_, insB_ok m1 (label_facts T).1 h1, of_decide_eq_true m2, of_decide_eq_true m3, of_decide_eq_true m4⟩
  | str z => exact Nat.le_trans (show Gn 200 z from h).1 (by decide)
  | non => trivial
  | bl _ => trivial
  | int _ => trivial
  | byt _ => exact h
  | flt _ => exact h
  | ty _ => exact h
def spThing (K : PySem.W.Frag) : Sp := fun vs H Q _ => ∃ r : Addr, vs = [.ref r] ∧ Rng r H ∧ ∀ (v : V) (H' : Hp), Dr r H H' → Tg K H H' v → Q v H'
def spNoSort (K : PySem.W.Frag) : Sp := fun vs H Q _ => ∃ r : Addr, vs = [.ref r] ∧ Rng r H ∧ ∀ (v : V) (H' : Hp), Dr r H H' → Tg K H H' v → noSort v → Q v H'
theorem ok_law_thing (T : Txt K mg) : Fo false P w K mg base CX0 5 d_law_thing ["_law_rng_here"] (spThing K) := by
  obtain ⟨fd, F⟩ := T.dfn 21 (d := d_law_thing)
  refine ⟨fd, Fq.mk' F sc_law_thing (fun vs H Q E h => ?_) (fun cdv A outer s H vs Q E hg hr h => ?_), F⟩
  · obtain ⟨r, rfl, _⟩ := h
    rfl
  obtain ⟨r, rfl, hR, hQ⟩ := h
  refine ⟨_, (PSs.nox (pss_cons (ps_set (i := 1) sc_law_thing.nd rfl (Or.inl rfl) (pe_o (ok_law_draw T) (T.glo 22) (b_law_draw) gd_false (hr.mono (by decide)) rfl pass0 (pa_cons (pv 0) (pa_cons pe_int pa_nil))))
      (pss_cons (ps_if (pt_cmpR op_lt (pv 1) pe_int (nomark _)) (pss_one (ps_ret (pe_o (ok_law_string T) (T.glo 26) (b_law_string) gd_false (hr.mono (by decide)) rfl pass0 (pa_cons (pv 0) pa_nil)))) pss_nil)
      (pss_cons (ps_if (pt_cmpR op_lt (pv 1) pe_int (nomark _)) (pss_one (ps_ret (pe_o (ok_law_number T) (T.glo 27) (b_law_number) gd_false (hr.mono (by decide)) rfl pass0 (pa_cons (pv 0) pa_nil)))) pss_nil)
      (pss_cons (ps_if (pt_cmpR op_eq (pv 1) pe_int (nomark _)) (pss_one (ps_ret (pe_o (ok_law_choice T) (T.glo 23) (b_law_choice) gd_false (hr.mono (by decide)) rfl pass0 (pa_cons (pv 0) (pa_cons (pe_lst (pa_cons pe_bl (pa_cons pe_bl (pa_cons pe_non pa_nil)))) pa_nil))))) pss_nil)
      (pss_cons (ps_set (i := 2) sc_law_thing.nd rfl (Or.inl rfl) (pe_o (ok_law_letters T) (T.glo 24) (b_law_letters) gd_false (hr.mono (by decide)) rfl pass0 (pa_cons (pv 0) (pa_cons pe_int pa_nil))))
      (pss_one (ps_ret (pe_o (ok_law_choice T) (T.glo 23) (b_law_choice) gd_false (hr.mono (by decide)) rfl pass0 (pa_cons (pv 0) (pa_cons (pe_lst (pa_cons (pe_lst pa_nil) (pa_cons (pe_lst (pa_cons pe_int pa_nil)) (pa_cons (pe_tup (pa_cons pe_int pa_nil)) (pa_cons (pe_tup (pa_cons (pv 2) pa_nil)) (pa_cons pe_dnewK (pa_cons (pe_disp (pps_cons (pv 2) pe_int pps_nil) (by rfl) (by rfl) (fun z => by cases z) (by decide)) (pa_cons (pe_lst (pa_cons pe_non pa_nil)) (pa_cons (pe_tup pa_nil) (pa_cons (pe_lst (pa_cons (pv 2) pa_nil)) (pa_cons (pe_mk0 (label_facts T).2.1 (ok_Label_init T) (hr.mono (by decide)) rfl (T.glo 20) pass0) (pa_cons (StX.pe_makeR (label_facts T).2.1 (ok_Label_init T) (hr.mono (by decide)) rfl (T.glo 20) pass0 (pa_cons (pv 2) pa_nil)) pa_nil)))))))))))) pa_nil))))))))))), ?_⟩
  walk_at "rd"
  have hr0 : H r ≠ none := by
    obtain ⟨a, b, h, _⟩ := hR
    rw [h]
    exact nofun
  refine ⟨r, 8, rfl, hR, by decide, by decide, fun k H1 k0 k1 d1 => ⟨k, rfl, ite2 (fun _ => ?_) (fun _ => ⟨k, rfl, ite2 (fun _ => ?_) (fun _ => ⟨rfl, ite2 (fun _ => ?_) (fun _ => ?_)⟩)⟩)⟩⟩
  · exact ⟨r, rfl, d1.rg, fun z H2 hz d2 => hQ _ _ (d1.trans d2) hz⟩
  · exact ⟨r, rfl, d1.rg, fun z H2 hz d2 => hQ _ _ (d1.trans d2) hz⟩
  · refine ⟨by decide, fun p hp => ch d1.rg hp (by simp) (by simp) fun v hv H2 d2 _ _ => hQ _ _ (d1.trans d2) ?_⟩
    have h : ∀ v ∈ [V.bl true, V.bl false, V.non], Tg K H H2 v := by
      simp only [List.forall_mem_cons]
      exact ⟨trivial, trivial, trivial, fun v h => by cases h⟩
    exact h v hv
  · refine ⟨r, 2, rfl, d1.rg, by decide, fun z H2 hz hz2 d2 => ?_⟩
    walk_at "rd"
    have D2 := d1.trans d2
    have zl : Gn 200 z := ⟨by omega, fun c hc => lets128 c (hz2 c hc)⟩
    have zn : isNm (.str z) = true := by
      show (decide (1 ≤ (cs z).length) && (decide ((cs z).length ≤ 8) && (cs z).all fun c => decide (c ∈ cs lets))) = true
      rw [decide_eq_true (show 1 ≤ (cs z).length by omega), decide_eq_true (show (cs z).length ≤ 8 by omega)]
      simp only [Bool.true_and, List.all_eq_true, decide_eq_true_eq]
      exact hz2
    have B0 : ∀ {X : Hp} {a : Addr}, Ex H2 X → X a = none → H a = none := fun {X a} e h => by
      cases q : H a with
      | none => rfl
      | some o =>
        have hn := e.free h
        rw [D2.fx a o (D2.rg.ne hn) q] at hn
        cases hn
    refine ⟨by decide, fun p0 n0 => ?_⟩
    generalize e0 : upd _ p0 _ = X0
    obtain ⟨x0, g0⟩ := al n0 e0
    refine ⟨by decide, fun p1 n1 => ?_⟩
    generalize e1 : upd _ p1 _ = X1
    obtain ⟨x1, g1⟩ := al n1 e1
    refine ⟨by decide, fun p2 n2 => ?_⟩
    generalize e2 : upd _ p2 _ = X2
    obtain ⟨x2, g2⟩ := al n2 e2
    refine ⟨by decide, fun p3 n3 => ?_⟩
    generalize e3 : upd _ p3 _ = X3
    obtain ⟨x3, g3⟩ := al n3 e3
    refine fun p4 n4 => ?_
    generalize e4 : upd _ p4 _ = X4
    obtain ⟨x4, g4⟩ := al n4 e4
    refine fun p5 n5 => ⟨upd_same, [(Sum.inr z, .int 1)], rfl, (show 1 ≤ 15 by decide), by decide, ?_⟩
    rw [upd_upd]
    generalize e5 : upd _ p5 _ = X5
    obtain ⟨x5, g5⟩ := al n5 e5
    refine fun p6 n6 => ⟨by decide, ?_⟩
    generalize e6 : upd _ p6 _ = X6
    obtain ⟨x6, g6⟩ := al n6 e6
    refine fun p7 n7 => ⟨by decide, ?_⟩
    generalize e7 : upd _ p7 _ = X7
    obtain ⟨x7, g7⟩ := al n7 e7
    refine fun p8 n8 => ?_
    generalize e8 : upd _ p8 _ = X8
    obtain ⟨x8, g8⟩ := al n8 e8
    refine fun a dx na nd nad => ⟨by decide, fun q nq => lab_new (zs := []) na nd nad nq (fun z h => by cases h) (by decide) fun t9 ms9 X9 x9 g9 nt9 ht9 hm9 => ⟨rfl, ?_⟩⟩
    refine fun b dy nb ndy nby => ⟨by decide, fun q2 nq2 => lab_new (zs := [z]) nb ndy nby nq2 (fun y h => by rw [List.mem_singleton.mp h]; exact zn) (by simp) fun t10 ms10 X10 x10 g10 nt10 ht10 hm10 => ⟨rfl, by decide, fun p11 n11 => ?_⟩⟩
    have u9 : Ex X9 X10 := x10
    have u8 := x9.trans u9
    have u7 := x8.trans u8
    have u6 := x7.trans u7
    have u5 := x6.trans u6
    have u4 := x5.trans u5
    have u3 := x4.trans u4
    have u2 := x3.trans u3
    have u1 := x2.trans u2
    have u0 := x1.trans u1
    have v1 := x0.trans x1
    have v2 := v1.trans x2
    have v3 := v2.trans x3
    have v4 := v3.trans x4
    have v5 := v4.trans x5
    have v6 := v5.trans x6
    have v7 := v6.trans x7
    have v8 := v7.trans x8
    have v9 := v8.trans x9
    have fl1 : ∀ x ∈ [V.int 1], Fl x := fun x h => by rw [List.mem_singleton.mp h]; exact (show (1 : Int).natAbs < 10 ^ 42 by decide)
    have flz : ∀ x ∈ [V.str z], Fl x := fun x h => by rw [List.mem_singleton.mp h]; exact zl
    have fln : ∀ x ∈ [V.non], Fl x := fun x h => by rw [List.mem_singleton.mp h]; trivial
    have fl0 : ∀ x ∈ ([] : List V), Fl x := fun x h => by cases h
    have all : ∀ v ∈ [V.ref p0, V.ref p1, V.ref p2, V.ref p3, V.ref p4, V.ref p5, V.ref p6, V.ref p7, V.ref p8, V.ref a, V.ref b], Tg K H X10 v := by
      simp only [List.forall_mem_cons]
      refine ⟨⟨B0 (Same.refl _) n0, .inl ⟨_, u0 _ _ g0, by simp, fl0⟩⟩, ⟨B0 x0 n1, .inl ⟨_, u1 _ _ g1, by simp, fl1⟩⟩, ⟨B0 v1 n2, .inr (.inl ⟨_, u2 _ _ g2, by simp, fl1⟩)⟩, ⟨B0 v2 n3, .inr (.inl ⟨_, u3 _ _ g3, by simp, flz⟩)⟩,
        ⟨B0 v3 n4, .inr (.inr (.inl ⟨_, u4 _ _ g4, .inl rfl⟩))⟩, ⟨B0 v4 n5, .inr (.inr (.inl ⟨_, u5 _ _ g5, .inr ⟨z, rfl, zl⟩⟩))⟩, ⟨B0 v5 n6, .inl ⟨_, u6 _ _ g6, by simp, fln⟩⟩, ⟨B0 v6 n7, .inr (.inl ⟨_, u7 _ _ g7, by simp, fl0⟩)⟩,
        ⟨B0 v7 n8, .inl ⟨_, u8 _ _ g8, by simp, flz⟩⟩, ⟨B0 v8 na, .inr (.inr (.inr ⟨dx, t9, ms9, u9 _ _ g9, B0 v8 nt9, u9 _ _ ht9, hm9⟩))⟩, ⟨B0 v9 nb, .inr (.inr (.inr ⟨dy, t10, ms10, g10, B0 v9 nt10, ht10, hm10⟩))⟩, fun v h => by cases h⟩
    have D10 : Dr r H X10 := D2.ex (v9.trans x10)
    exact ch D10.rg n11 (by simp) (by simp) fun v hv H' d' _ _ => hQ _ _ (D10.trans d') ((all v hv).mono (Kp.of_dr hr0 d'))
theorem ok_law_no_sort (T : Txt K mg) : Fo false P w K mg base CX0 3 d_law_no_sort ["_law_rng_here"] (spNoSort K) := by
  obtain ⟨fd, F⟩ := T.dfn 22 (d := d_law_no_sort)
  refine ⟨fd, Fq.mk' F sc_law_no_sort (fun vs H Q E h => ?_) (fun cdv A outer s H vs Q E hg hr h => ?_), F⟩
  · obtain ⟨r, rfl, _⟩ := h
    rfl
  obtain ⟨r, rfl, hR, hQ⟩ := h
  refine ⟨_, (PSs.nox (pss_one (ps_ret (pe_o (ok_law_choice T) (T.glo 23) (b_law_choice) gd_false (hr.mono (by decide)) rfl pass0 (pa_cons (pv 0) (pa_cons (pe_lst (pa_cons pe_non (pa_cons pe_int (pa_cons pe_bl (pa_cons pe_str (pa_cons pe_str (pa_cons pe_str (pa_cons pe_str (pa_cons pe_str (pa_cons (pe_lst pa_nil) (pa_cons (pe_tup (pa_cons pe_str pa_nil)) (pa_cons pe_dnewK (pa_cons (pe_lst (pa_cons pe_str pa_nil)) (pa_cons pe_str pa_nil)))))))))))))) pa_nil)))))), ?_⟩
  walk_at "rd"
  have hr0 : H r ≠ none := by
    obtain ⟨a, b, h, _⟩ := hR
    rw [h]
    exact nofun
  refine ⟨by decide, fun p0 n0 => ?_⟩
  generalize e0 : upd _ p0 _ = X0
  obtain ⟨x0, g0⟩ := al n0 e0
  refine ⟨by decide, fun p1 n1 => ?_⟩
  generalize e1 : upd _ p1 _ = X1
  obtain ⟨x1, g1⟩ := al n1 e1
  refine fun p2 n2 => ?_
  generalize e2 : upd _ p2 _ = X2
  obtain ⟨x2, g2⟩ := al n2 e2
  refine ⟨by decide, fun p3 n3 => ?_⟩
  generalize e3 : upd _ p3 _ = X3
  obtain ⟨x3, g3⟩ := al n3 e3
  refine ⟨by decide, fun p4 n4 => ?_⟩
  have u2 := x3
  have u1 := x2.trans u2
  have u0 := x1.trans u1
  have v1 := x0.trans x1
  have v2 := v1.trans x2
  have v3 := v2.trans x3
  have fls : ∀ x ∈ [V.str "int"], Fl x := fun x h => by rw [List.mem_singleton.mp h]; exact (show Gn 200 "int" by decide +kernel)
  have fl0 : ∀ x ∈ ([] : List V), Fl x := fun x h => by cases h
  have no : ∀ {y : Str}, y ≠ "int" → y ≠ "text" → y ≠ "truth" → noSort (.str y) := fun a b c => ⟨fun e => a (V.str.inj e), fun e => b (V.str.inj e), fun e => c (V.str.inj e)⟩
  have nr : ∀ {a : Addr}, noSort (.ref a) := ⟨nofun, nofun, nofun⟩
  have st : ∀ (y : Str), Gn 200 y → y ≠ "int" → y ≠ "text" → y ≠ "truth" → Tg K H X3 (.str y) ∧ noSort (.str y) := fun y h a b c => ⟨h, no a b c⟩
  have all : ∀ v ∈ [V.non, V.int 0, V.bl true, V.str "", V.str "Int", V.str "integer", V.str "empty", V.str "row", V.ref p0, V.ref p1, V.ref p2, V.ref p3, V.str "int "], Tg K H X3 v ∧ noSort v := by
    simp only [List.forall_mem_cons]
    refine ⟨⟨trivial, nofun, nofun, nofun⟩, ⟨(show (0 : Int).natAbs < 10 ^ 42 by decide), nofun, nofun, nofun⟩, ⟨trivial, nofun, nofun, nofun⟩, st _ (by decide +kernel) (by decide +kernel) (by decide +kernel) (by decide +kernel), st _ (by decide +kernel) (by decide +kernel) (by decide +kernel) (by decide +kernel), st _ (by decide +kernel) (by decide +kernel) (by decide +kernel) (by decide +kernel), st _ (by decide +kernel) (by decide +kernel) (by decide +kernel) (by decide +kernel), st _ (by decide +kernel) (by decide +kernel) (by decide +kernel) (by decide +kernel),
      ⟨⟨n0, .inl ⟨_, u0 _ _ g0, by simp, fl0⟩⟩, nr⟩, ⟨⟨x0.free n1, .inr (.inl ⟨_, u1 _ _ g1, by simp, fls⟩)⟩, nr⟩, ⟨⟨v1.free n2, .inr (.inr (.inl ⟨_, u2 _ _ g2, .inl rfl⟩))⟩, nr⟩, ⟨⟨v2.free n3, .inl ⟨_, g3, by simp, fls⟩⟩, nr⟩, st _ (by decide +kernel) (by decide +kernel) (by decide +kernel) (by decide +kernel), fun v h => by cases h⟩
  have D3 : Dr r H X3 := (Dr.refl hR).ex v3
  exact ch D3.rg n4 (by simp) (by simp) fun v hv H' d' _ _ => hQ _ _ (D3.trans d') ((all v hv).1.mono (Kp.of_dr hr0 d')) (all v hv).2
end
end K11

set_option Elab.async false
set_option linter.all false
set_option maxRecDepth 100000
set_option maxHeartbeats 4000000
namespace K11
open PySem PySem.Spec PyProof.Rows L2 Ab
local macro_rules | `(tactic| walk_at "rd") => `(tactic| simp only [start_eq, List.map_cons, List.map_nil, List.length_cons, List.length_nil, List.replicate_succ, List.replicate_zero, List.cons_append, List.nil_append, Nat.reduceSub, Nat.reduceAdd, Nat.zero_add,
  tSeq, tAsg, tIf, tTest, tOp, tVar, tCB, tCons, tNil, tC, gName, tRet, tLst, tTup, tIfS, tDrop, tB, tAnd, tOr, tNot, tAndV, tOrV, tNotV, tUn, tNext, tNever, gTup, gSub, gCons, gNil, rSetL, tPar, rCat, rRep, rAppend, rAll, rAny, tM1, tBM, tBM0, tDisp, tPairs, rIn, tChain, tPart, tFld, tFmt, tJs, rRepS, tFor_eq, tLc_eq, iRng1, iRng2, iList, iTup, iStr, rI0, rI, rU, rIxL, rIxT, rIxS, tO, gPos, StX.tMakeR, tDNewK, sFld, ClX.tCVal, rSortedS, rEq, rNe, scal_ii, scal_ss, scal_bb, scal_nn, scal_is, scal_si, cx_K, cx_Kn,
  V.int.injEq, V.ref.injEq, V.str.injEq, V.bl.injEq, List.cons.injEq, Bool.not_eq_true', decide_eq_true_eq, decide_eq_false_iff_not, if_true, if_false, Bool.not_true, Bool.not_false, Bool.false_eq_true, not_true_eq_false, not_false_eq_true, and_assoc, and_true, true_and, exists_eq_left', exists_eq_left, exists_and_left, reduceCtorEq, false_and, and_false, exists_false, or_false, false_or,
  List.getElem?_cons_zero, List.getElem?_cons_succ, Option.some.injEq, List.set_cons_zero, List.set_cons_succ])
local macro_rules | `(tactic| walk_at "rk") => `(tactic| simp only [start_eq, List.map_cons, List.map_nil, List.length_cons, List.length_nil, List.replicate_succ, List.replicate_zero, List.cons_append, List.nil_append, Nat.reduceSub, Nat.reduceAdd, Nat.zero_add,
  tSeq, tAsg, tTest, tOp, tVar, tCB, tCons, tNil, tC, gName, tRet, tLst, tTup, tIfS, tDrop, tB, tAnd, tOr, tNot, tNotV, tUn, tNext, tNever, gTup, gSub, gCons, gNil, rSetL, tPar, rCat, rRep, rAppend, rAll, rAny, tM1, tBM, tBM0, tDisp, tPairs, rIn, tChain, tPart, tFld, tFmt, tJs, rRepS, tFor_eq, tLc_eq, iRng1, iRng2, iList, iTup, iStr, rI0, rI, rU, rIxL, rIxT, rIxS, tO, gPos, StX.tMakeR, tDNewK, sFld, ClX.tCVal, rSortedS, rEq, rNe, scal_ii, scal_ss, scal_bb, scal_nn, scal_is, scal_si, cx_K, cx_Kn,
  V.int.injEq, V.ref.injEq, V.str.injEq, V.bl.injEq, List.cons.injEq, Bool.not_eq_true', decide_eq_true_eq, decide_eq_false_iff_not, if_true, if_false, Bool.not_true, Bool.not_false, Bool.false_eq_true, not_true_eq_false, not_false_eq_true, and_assoc, and_true, true_and, exists_eq_left', exists_eq_left, exists_and_left, reduceCtorEq, false_and, and_false, exists_false, or_false, false_or,
  List.getElem?_cons_zero, List.getElem?_cons_succ, Option.some.injEq, List.set_cons_zero, List.set_cons_succ])
def labT (ms : List Str) : Str := Str.empty ++ "Label(" ++ Txt.join ", " (ms.map reprText) ++ ")"
theorem range_map {α β : Type} : ∀ (l : List α) (d : α) (f : α → β), (List.range l.length).map (fun i => f (l.getD i d)) = l.map f := by
  intro l d f
  apply List.ext_getElem?
  intro i
  rw [List.getElem?_map, List.getElem?_map]
  by_cases hi : i < l.length
  · rw [List.getElem?_range hi, Option.map_some, List.getD_eq_getElem?_getD, List.getElem?_eq_getElem hi]
    rfl
  · rw [List.getElem?_eq_none (by rw [List.length_range]; omega), List.getElem?_eq_none (by omega)]
    rfl
theorem nm_repr {z : Str} (h : isNm (.str z) = true) : (reprText z).length ≤ 100 := by
  have h' : (decide (1 ≤ (cs z).length) && (decide ((cs z).length ≤ 8) && (cs z).all fun c => decide (c ∈ cs lets))) = true := h
  simp only [Bool.and_eq_true, decide_eq_true_eq, List.all_eq_true] at h'
  have := StrLaws.reprText_len z fun c hc => Nat.lt_of_lt_of_le (lets128 c (h'.2.2 c hc)) (by decide)
  have e := cs_len z
  omega
theorem join_small : ∀ {l : List Str}, l.length ≤ 4 → (∀ z ∈ l, z.length ≤ 100) → (l.map (fun x => x.length)).sum + l.length * (Str.ofString ", ").length ≤ 16777216 ∧ (Txt.join ", " l).length ≤ 1000 := by
  intro l hl h
  have e2 : (Str.ofString ", ").length = 2 := by decide +kernel
  have hs : ∀ {l : List Str}, (∀ z ∈ l, z.length ≤ 100) → (l.map (fun x => x.length)).sum ≤ 100 * l.length := by
    intro l
    induction l with
    | nil => intro _; simp
    | cons x l ih =>
      intro h
      have h1 := h x List.mem_cons_self
      have h2 := ih fun z hz => h z (List.mem_cons_of_mem _ hz)
      simp only [List.map_cons, List.sum_cons, List.length_cons]
      omega
  have hs := hs h
  refine ⟨by rw [e2]; omega, ?_⟩
  have ej : Txt.join ", " l = Str.join ", " l := TL.join_eq _ _
  rw [ej]
  by_cases h0 : l = []
  · subst h0
    decide +kernel
  · have hp : ∀ l : List Str, piled l = (l.map (fun x => x.length)).sum + 2 * l.length := by
      intro l
      induction l with
      | nil => rfl
      | cons x l ih =>
        rw [piled_cons, ih]
        simp only [List.map_cons, List.sum_cons, List.length_cons]
        omega
    have := join_length_add l h0
    rw [hp] at this
    omega
theorem lab_len {ms : List Str} (h1 : ms.length ≤ 4) (h2 : ∀ z ∈ ms, isNm (.str z) = true) : (labT ms).length ≤ 10000 := by
  have jl := join_small (l := ms.map reprText) (by rw [List.length_map]; exact h1) fun z hz => by
    obtain ⟨y, hy, rfl⟩ := List.mem_map.mp hz
    exact nm_repr (h2 y hy)
  have b0 : (Str.empty ++ Str.ofString "Label(").length ≤ 10 := by decide +kernel
  unfold labT
  rw [strLen_append, strLen_append]
  exact Nat.le_trans (Nat.add_le_add (Nat.add_le_add b0 jl.2) (show (Str.ofString ")").length ≤ 1 by decide +kernel)) (by decide)
theorem int_len {i : Int} (h : i.natAbs < 10 ^ 42) : (((toString i : String) : Str)).length ≤ 5000 := by
  have e := int_text_length_le10 (k := 42) (by decide) h
  clear h
  rw [PySem.ofString_length]
  omega
def spLabR (K : PySem.W.Frag) : Sp := fun vs H Q _ => ∃ (a : Addr) (ms : List Str), vs = [.ref a] ∧ LabAt K H a ms ∧ ∀ H', Ex H H' → Q (.str (labT ms)) H'
section
variable {P : Program} {w : World} {K : PySem.W.Frag} {mg : Str → Option Value} {base : Heap}
theorem ok_Label_repr (T : Txt K mg) : Fo false P w K mg base CX0 1 d_Label_repr ["self"] (spLabR K) := by
  obtain ⟨fd, F⟩ := T.dfn 12 (d := d_Label_repr)
  refine ⟨fd, Fq.mk' F sc_Label_repr (fun vs H Q E h => ?_) (fun cdv A outer s H vs Q E hg hr h => ?_), F⟩
  · obtain ⟨a, ms, rfl, _⟩ := h
    rfl
  obtain ⟨a, ms, rfl, ⟨dx, t, hA, ht, hl, hN⟩, hQ⟩ := h
  refine ⟨_, (PSs.nox (pss_cons (ps_set (i := 1) sc_Label_repr.nd rfl (Or.inl rfl) (pe_join pe_str (pe_lc (own := [("mark", 2)]) rfl sc_Label_repr.nd (pi_tup (pe_fld (pv 0) rfl)) (blkOk_by (own := [("mark", 2)]) (N := N_Label_repr) (sc := defScope s_Label_repr) (by decide +kernel)) (fun _ _ _ _ _ => (pg_name (i := 2) sc_Label_repr.nd rfl (Or.inl rfl))) (fun _ _ _ _ _ => pts_nil) (fun _ _ _ _ _ => (pe_callB Ab.call_repr_str rfl (T.free 53) (by decide +kernel) (pa_cons (pv 2) pa_nil))))))
      (pss_one (ps_ret (pe_joined (PJ.cons pe_str (PJ.cons (pe_fmt (pv 1)) (PJ.cons pe_str PJ.nil)))))))), ?_⟩
  walk_at "rd"
  obtain ⟨fc, _, fn, _⟩ := label_facts T
  refine ⟨⟨_, rfl⟩, _, _, _, hA, fc, fn, _, rfl, t, rfl, ⟨_, SqT.of ht⟩, ?_⟩
  have sml : ∀ z ∈ ms, (reprText z).length ≤ 100 := fun z hz => nm_repr (hN z hz)
  refine lc_val (walk_tup (xs := ms.map V.str)) (fun H' e => SqT.of (e _ _ ht)) (by rw [List.length_map]; omega) (fun i => .str (reprText (ms.getD i ""))) (fun i x H' H2 hi e hY Qn k => ?_) fun D H' hD e hl' => ?_
  · obtain ⟨rfl, hx⟩ := hY
    rw [List.length_map] at hi
    have hz : x = .str (ms.getD i "") := by
      rw [List.getElem?_map, List.getElem?_eq_getElem hi] at hx
      rw [List.getD_eq_getElem?_getD, List.getElem?_eq_getElem hi]
      exact (Option.some.inj hx).symm
    subst hz
    have hm : ms.getD i "" ∈ ms := by
      rw [List.getD_eq_getElem?_getD, List.getElem?_eq_getElem hi]
      exact List.getElem_mem hi
    walk_at "rd"
    exact ⟨rfl, _, rfl, _, rfl, Nat.le_trans (sml _ hm) (by decide), k _ (Same.refl _)⟩
  · have em : (List.range (ms.map V.str).length).map (fun i => V.str (reprText (ms.getD i ""))) = (ms.map reprText).map V.str := by
      rw [List.length_map, List.map_map]
      exact range_map ms "" (V.str ∘ reprText)
    rw [em] at hl'
    have jl := join_small (l := ms.map reprText) (by rw [List.length_map]; exact hl) fun z hz => by
      obtain ⟨y, hy, rfl⟩ := List.mem_map.mp hz
      exact sml y hy
    have b0 : (Str.empty ++ Str.ofString "Label(").length ≤ 10 := by decide +kernel
    refine ⟨D, rfl, _, .inl (SqL.of hl'), jl.1, Nat.le_trans b0 (by decide), Nat.le_trans jl.2 (by decide), ?_, ?_, hQ _ e⟩
    · rw [strLen_append]
      exact Nat.le_trans (Nat.add_le_add b0 jl.2) (by decide)
    · rw [strLen_append, strLen_append]
      exact Nat.le_trans (Nat.add_le_add (Nat.add_le_add b0 jl.2) (show (Str.ofString ")").length ≤ 1 by decide +kernel)) (by decide)
theorem int_small {i : Int} (h : i.natAbs < 10 ^ 42) : i.natAbs.log2 < 1920 := log2_small (Nat.lt_trans h (by decide +kernel))
theorem gn_repr {z : Str} (h : Gn 200 z) : (reprText z).length ≤ 5000 := by
  have := StrLaws.reprText_len z fun c hc => Nat.lt_of_lt_of_le (h.2 c hc) (by decide)
  have e := cs_len z
  have := h.1
  omega
theorem Fl.flv {v : V} (h : Fl v) : FlV v := by
  cases v with
  | non => trivial
  | int i => exact int_small h
  | str z => exact gn_repr h
  | _ => exact h.elim
theorem flt_len {v : V} (h : FlV v) (h' : ∀ i, v = .int i → i.natAbs < 10 ^ 42) : (flT v).length ≤ 5000 := by
  cases v with
  | non => decide +kernel
  | bl b => cases b <;> decide +kernel
  | int i => exact int_len (h' i rfl)
  | str z => exact h
  | _ => exact h.elim
theorem Fl.len {v : V} (h : Fl v) : (flT v).length ≤ 5000 := flt_len h.flv fun i e => by subst e; exact h
theorem sum_small {xs : List V} (h1 : xs.length ≤ 1) (h : ∀ x ∈ xs, Fl x) : ((xs.map flT).map (·.length)).sum + 2 * (xs.map flT).length + 3 ≤ 9000 := by
  match xs, h1 with
  | [], _ => decide
  | [x], _ =>
    have := (h x List.mem_cons_self).len
    simp only [List.map_cons, List.map_nil, List.sum_cons, List.sum_nil, List.length_cons, List.length_nil]
    omega
theorem Tg.shows {X : Cx} (T : Txt X.K X.mg) {B H : Hp} {v : V} (h : Tg X.K B H v) : ∃ (t : Str) (as : List Addr), t.length ≤ 10000 ∧ (∀ a ∈ as, H a ≠ none) ∧ ∀ u, RelV v u → RepJ X 2 2 as H u t := by
  have flat : ∀ {v : V}, FlV v → (flT v).length ≤ 5000 → ∃ (t : Str) (as : List Addr), t.length ≤ 10000 ∧ (∀ a ∈ as, H a ≠ none) ∧ ∀ u, RelV v u → RepJ X 2 2 as H u t :=
    fun h hl => ⟨_, [], Nat.le_trans hl (by decide), fun a ha => (nomatch ha), RepJ.flat h⟩
  cases v with
  | ref a =>
    obtain ⟨_, h⟩ := h
    have one : ∀ {o : HO}, H a = some o → ∀ b ∈ [a], H b ≠ none := fun e b hb => by rw [List.mem_singleton.mp hb, e]; exact nofun
    have rl : ∀ {t : Str} {as : List Addr}, RepJ X 2 2 as H (.ref a) t → ∀ u, RelV (.ref a) u → RepJ X 2 2 as H u t := fun h u r => by cases r; exact h
    rcases h with ⟨xs, h1, h2, h3⟩ | ⟨xs, h1, h2, h3⟩ | ⟨kvs, h1, h2⟩ | ⟨dx, t, ms, h1, h2, h3, h4, h5⟩
    · by_cases h0 : xs = []
      · subst h0
        exact ⟨_, [], by decide +kernel, fun a ha => (nomatch ha), rl (RepJ.nilL h1)⟩
      · exact ⟨_, [a], Nat.le_trans (listText_len_le _) (Nat.le_trans (sum_small h2 h3) (by decide)), one h1, rl (RepJ.flatL h1 h0 fun v hv => (h3 v hv).flv)⟩
    · exact ⟨_, [a], Nat.le_trans (tupleText_len_le _) (Nat.le_trans (sum_small h2 h3) (by decide)), one h1, rl (RepJ.flatT h1 fun v hv => (h3 v hv).flv)⟩
    · rcases h2 with rfl | ⟨z, rfl, hz⟩
      · exact ⟨_, [a], by decide +kernel, one h1, rl (RepJ.flatD h1 fun p hp => (nomatch hp))⟩
      · refine ⟨_, [a], ?_, one h1, rl (RepJ.flatD h1 fun p hp => ?_)⟩
        · refine Nat.le_trans (dictText_len_le _) ?_
          have e1 : (kvT (Sum.inr z, .int 1)).length ≤ 5010 := by
            show (reprText z ++ ": " ++ (toString (1 : Int) : String)).length ≤ _
            rw [strLen_append, strLen_append]
            have := gn_repr hz
            have e3 : ((": " : Str)).length = 2 := by decide +kernel
            have e4 : (((toString (1 : Int) : String) : Str)).length = 1 := by decide +kernel
            omega
          simp only [List.map_cons, List.map_nil, List.sum_cons, List.sum_nil, List.length_cons, List.length_nil]
          omega
        · rw [List.mem_singleton.mp hp]
          exact ⟨gn_repr hz, (show (1 : Int).natAbs.log2 < 1920 by decide)⟩
    · obtain ⟨fd, F, FD⟩ := ok_Label_repr (P := X.prog) (w := X.w) (base := X.base) T
      have m0 : (He.Fa.meth "Label" "__repr__").ok X.K = true := T.fact 58
      obtain ⟨m1, m2⟩ := He.ba m0
      refine ⟨labT ms, [], lab_len h4 h5, fun a ha => (nomatch ha), rl ?_⟩
      refine (RepJ.own (d := 2) F (b_Label_repr fd FD) (He.eqO_ok m1) (He.ba m2).1 fun H' e => ⟨e _ _ h1, a, ms, rfl, ⟨dx, t, e _ _ h1, e _ _ h3, h4, h5⟩, fun H'' e' => ⟨rfl, e'⟩⟩).le (by decide) (by decide)
  | str z => exact flat (v := .str z) (gn_repr h) (gn_repr h)
  | non => exact flat (v := .non) trivial (by decide +kernel)
  | bl b => exact flat (v := .bl b) trivial (by cases b <;> decide +kernel)
  | int i => exact flat (v := .int i) (int_small h) (int_len h)
  | byt _ => exact h.elim
  | flt _ => exact h.elim
  | ty _ => exact h.elim
end
end K11

set_option Elab.async false
set_option linter.all false
set_option maxRecDepth 100000
set_option maxHeartbeats 4000000
namespace K11
open PySem PySem.Spec PyProof.Rows L2 Ab
local macro_rules | `(tactic| walk_at "rd") => `(tactic| simp only [start_eq, List.map_cons, List.map_nil, List.length_cons, List.length_nil, List.replicate_succ, List.replicate_zero, List.cons_append, List.nil_append, Nat.reduceSub, Nat.reduceAdd, Nat.zero_add,
  tSeq, tAsg, tIf, tTest, tOp, tVar, tCB, tCons, tNil, tC, gName, tRet, tLst, tTup, tIfS, tDrop, tB, tAnd, tOr, tNot, tAndV, tOrV, tNotV, tUn, tNext, tNever, gTup, gSub, gCons, gNil, rSetL, tPar, rCat, rRep, rAppend, rAll, rAny, tM1, tBM, tBM0, tDisp, tPairs, rIn, tChain, tPart, tFld, tFmt, tJs, rRepS, tFor_eq, tLc_eq, iRng1, iRng2, iList, iTup, iStr, rI0, rI, rU, rIxL, rIxT, rIxS, tO, gPos, StX.tMakeR, tDNewK, sFld, ClX.tCVal, rSortedS, rEq, rNe, scal_ii, scal_ss, scal_bb, scal_nn, scal_is, scal_si, cx_K, cx_Kn,
  V.int.injEq, V.ref.injEq, V.str.injEq, V.bl.injEq, List.cons.injEq, Bool.not_eq_true', decide_eq_true_eq, decide_eq_false_iff_not, if_true, if_false, Bool.not_true, Bool.not_false, Bool.false_eq_true, not_true_eq_false, not_false_eq_true, and_assoc, and_true, true_and, exists_eq_left', exists_eq_left, exists_and_left, reduceCtorEq, false_and, and_false, exists_false, or_false, false_or,
  List.getElem?_cons_zero, List.getElem?_cons_succ, Option.some.injEq, List.set_cons_zero, List.set_cons_succ])
local macro_rules | `(tactic| walk_at "rk") => `(tactic| simp only [start_eq, List.map_cons, List.map_nil, List.length_cons, List.length_nil, List.replicate_succ, List.replicate_zero, List.cons_append, List.nil_append, Nat.reduceSub, Nat.reduceAdd, Nat.zero_add,
  tSeq, tAsg, tTest, tOp, tVar, tCB, tCons, tNil, tC, gName, tRet, tLst, tTup, tIfS, tDrop, tB, tAnd, tOr, tNot, tNotV, tUn, tNext, tNever, gTup, gSub, gCons, gNil, rSetL, tPar, rCat, rRep, rAppend, rAll, rAny, tM1, tBM, tBM0, tDisp, tPairs, rIn, tChain, tPart, tFld, tFmt, tJs, rRepS, tFor_eq, tLc_eq, iRng1, iRng2, iList, iTup, iStr, rI0, rI, rU, rIxL, rIxT, rIxS, tO, gPos, StX.tMakeR, tDNewK, sFld, ClX.tCVal, rSortedS, rEq, rNe, scal_ii, scal_ss, scal_bb, scal_nn, scal_is, scal_si, cx_K, cx_Kn,
  V.int.injEq, V.ref.injEq, V.str.injEq, V.bl.injEq, List.cons.injEq, Bool.not_eq_true', decide_eq_true_eq, decide_eq_false_iff_not, if_true, if_false, Bool.not_true, Bool.not_false, Bool.false_eq_true, not_true_eq_false, not_false_eq_true, and_assoc, and_true, true_and, exists_eq_left', exists_eq_left, exists_and_left, reduceCtorEq, false_and, and_false, exists_false, or_false, false_or,
  List.getElem?_cons_zero, List.getElem?_cons_succ, Option.some.injEq, List.set_cons_zero, List.set_cons_succ])
theorem bool_text (l : List Bool) (h : l.length ≤ 100) : (listText ((l.map V.bl).map flT)).length ≤ sizeLine := by
  have hs : ∀ l : List Bool, (((l.map V.bl).map flT).map (·.length)).sum ≤ 5 * l.length := by
    intro l
    induction l with
    | nil => simp
    | cons b l ih =>
      have e : (flT (.bl b)).length ≤ 5 := by cases b <;> decide +kernel
      simp only [List.map_cons, List.sum_cons, List.length_cons]
      omega
  have h1 := listText_len_le ((l.map V.bl).map flT)
  have h2 := hs l
  have h3 : ((l.map V.bl).map flT).length = l.length := by simp
  exact Nat.le_trans h1 (Nat.le_trans (show _ ≤ 1000 by omega) (by decide))
def spRight : Sp := fun vs H Q _ => ∃ r : Addr, vs = [.ref r] ∧ Rng r H ∧ ∀ H', Dr r H H' → Q (.bl true) H'
section
variable {P : Program} {w : World} {K : PySem.W.Frag} {mg : Str → Option Value} {base : Heap}
theorem ok_law_right (T : Txt K mg) : Fo true P w K mg base CX0 6 d_law_right ["_law_rng_here"] spRight := by
  obtain ⟨fd, F⟩ := T.dfn 28 (d := d_law_right)
  refine ⟨fd, Fq.mk' F sc_law_right (fun vs H Q E h => ?_) (fun cdv A outer s H vs Q E hg hr h => ?_), F⟩
  · obtain ⟨r, rfl, _⟩ := h
    rfl
  obtain ⟨r, rfl, hR, hQ⟩ := h
  refine ⟨_, (PSs.nox (pss_cons (ps_setLc (i := 1) (own := [("_law_k", 7)]) rfl sc_law_right.nd rfl rfl (sw_true rfl rfl rfl (by decide +kernel)) (pi_range1 rfl (T.free 45) (pa_cons pe_int pa_nil)) (blkOk_by (own := [("_law_k", 7)]) (N := N_law_right) (sc := defScope s_law_right) (by decide +kernel)) (fun _ _ _ _ _ => (pg_name (i := 7) sc_law_right.nd rfl (Or.inl rfl))) (fun _ _ _ _ _ => pts_nil) (fun _ _ _ _ _ => (pe_o (ok_law_thing T) (T.glo 28) (b_law_thing) gd_false (hr.mono (by decide)) rfl pass0 (pa_cons (pv 0) pa_nil))))
      (pss_cons (ps_setLc (i := 3) (own := [("_law_thing_here", 2)]) rfl sc_law_right.nd rfl rfl (sw_true rfl rfl rfl (by decide +kernel)) (pi_list (pv 1)) (blkOk_by (own := [("_law_thing_here", 2)]) (N := N_law_right) (sc := defScope s_law_right) (by decide +kernel)) (fun _ _ _ _ _ => (pg_name (i := 2) sc_law_right.nd rfl (Or.inl rfl))) (fun _ _ _ _ _ => pts_nil) (fun _ _ _ _ _ => (pe_tup (pa_cons (pv 2) (pa_cons (pe_o (ok_law_no_sort T) (T.glo 29) (b_law_no_sort) gd_false (hr.mono (by decide)) rfl pass0 (pa_cons (pv 0) pa_nil)) pa_nil)))))
      (pss_cons (ps_for PassesOwn.never rfl (pi_range1 rfl (T.free 45) (pa_cons pe_int pa_nil)) (pg_name (i := 4) sc_law_right.nd rfl (Or.inl rfl)) (pss_one (ps_for PassesOwn.never rfl (pi_list (pv 3)) (pg_tup (n := 2) rfl (pgs_cons (pg_name (i := 2) sc_law_right.nd rfl (Or.inl rfl)) (pgs_cons (pg_name (i := 5) sc_law_right.nd rfl (Or.inl rfl)) pgs_nil))) (pss_cons (ps_set (i := 6) sc_law_right.nd rfl (Or.inl rfl) (pe_callB (Ab.call_repr (k := 2) (d := 2) (hg rfl) (hr.mono (by decide)) (by decide)) rfl (T.free 53) (by decide +kernel) (pa_cons (pe_lst (pa_cons (pv 2) (pa_cons (pv 5) pa_nil))) pa_nil)))
      (pss_one (ps_if (PW.pt (pw_or (pt_cmpR op_ne (pe_callB (Ab.call_repr (k := 2) (d := 2) (hg rfl) (hr.mono (by decide)) (by decide)) rfl (T.free 53) (by decide +kernel) (pa_cons (pe_o (ok_law_told T) (T.glo 33) (b_law_told) gd_false (hr.mono (by decide)) rfl pass0 (pa_cons (pv 2) (pa_cons (pv 5) pa_nil))) pa_nil)) (pe_callB (Ab.call_repr (k := 2) (d := 2) (hg rfl) (hr.mono (by decide)) (by decide)) rfl (T.free 53) (by decide +kernel) (pa_cons (pe_o (ok_law_due T) (T.glo 34) (b_law_due) gd_false (hr.mono (by decide)) rfl pass0 (pa_cons (pv 2) pa_nil)) pa_nil)) (nomark _)) (pw_or1 (pt_cmpR op_ne (pe_callB (Ab.call_repr (k := 2) (d := 2) (hg rfl) (hr.mono (by decide)) (by decide)) rfl (T.free 53) (by decide +kernel) (pa_cons (pe_lst (pa_cons (pv 2) (pa_cons (pv 5) pa_nil))) pa_nil)) (pv 6) (nomark _))))) (pss_one (ps_ret pe_bl)) pss_nil))))))
      (pss_one (ps_ret pe_bl)))))), ?_⟩
  walk_at "rd"
  have hr0 : H r ≠ none := by
    obtain ⟨a, b, h, _⟩ := hR
    rw [h]
    exact nofun
  refine ⟨by decide, by decide, ?_⟩
  refine lc_dr walk_range hR (fun _ _ => trivial) (by decide) (fun _ B H y => Tg K B H y) (fun _ _ _ _ _ k h => h.mono k) ?_ ?_
  · rintro D i x H1 H2 hi hD hD2 d ⟨rfl, rfl⟩ Qn k
    walk_at "rd"
    exact ⟨rfl, _, rfl, r, rfl, d.rg, fun v H3 d3 hv => k _ _ d3 (hv.weak fun b hb => base_dr d hD2 hb)⟩
  intro D1 xs H1 hD1 d1 hx hl1 he1
  refine ⟨D1, rfl, ⟨_, SqL.of hx⟩, ?_⟩
  have nD1 : D1 ≠ r := hR.ne hD1
  refine lc_dr (walk_list (xs := xs)) d1.rg (fun H' d => SqL.of (d.get nD1 hx)) (by rw [hl1]; decide) (fun i B H y => ∃ a n, y = .ref a ∧ B a = none ∧ H a = some (.tup [xs.getD i .non, n]) ∧ Tg K B H n ∧ noSort n)
    (fun i B H H' y k h => by obtain ⟨a, n, e, b0, h1, h2, h3⟩ := h; exact ⟨a, n, e, b0, k _ _ b0 h1, h2.mono k, h3⟩) ?_ ?_
  · rintro D i x H2 H3 hi hD hD2 d ⟨rfl, hx'⟩ Qn k
    walk_at "rd"
    refine ⟨rfl, _, rfl, _, rfl, r, rfl, d.rg, fun n H4 d4 hn hno => ⟨by decide, fun a ha => k _ _ (d4.ex (Ex.new ha)) ⟨a, n, rfl, ?_, ?_, ?_, hno⟩⟩⟩
    · exact base_dr (d.trans d4) (by obtain ⟨o, ho⟩ := Option.ne_none_iff_exists'.mp hD2; rw [d4.get (d1.rg.ne hD) ho]; exact nofun) ha
    · rw [upd_same]
      have e : xs.getD i .non = x := by
        rw [List.getD_eq_getElem?_getD, hx']
        rfl
      rw [e]
    · exact (hn.mono (Kp.of_ex (Ex.new ha))).weak fun b hb => base_dr d hD2 hb
  intro D2 ys H2 hD2 d2 hy hl2 he2
  refine ⟨by decide, by decide, ?_⟩
  generalize hX : L2.Cx.nox _ = X
  have shows : ∀ {H' : Hp} {v : V}, Tg K (fun _ => none) H' v → ∃ (t : Str) (as : List Addr), t.length ≤ 10000 ∧ (∀ a ∈ as, H' a ≠ none) ∧ ∀ u, RelV v u → RepJ X 2 2 as H' u t := by
    rw [← hX]
    exact fun h => Tg.shows T h
  clear hX
  have B0 : ∀ {B : Hp} {b : Addr}, B b = none → (fun _ => none : Hp) b = none := fun _ => rfl
  have hy8 : ys.length = 8 := by rw [hl2, hl1]; rfl
  have all : ∀ (i : Nat) (y : V), ys[i]? = some y → ∃ a v n, y = .ref a ∧ H2 a = some (.tup [v, n]) ∧ Tg K (fun _ => none) H2 v ∧ Tg K (fun _ => none) H2 n ∧ noSort n := by
    intro i y hi
    obtain ⟨a, n, e, _, h1, h2, h3⟩ := he2 i y hi
    refine ⟨a, _, n, e, h1, ?_, h2.weak fun _ _ => rfl, h3⟩
    have hi' : i < ys.length := by
      rcases Nat.lt_or_ge i ys.length with h | h
      · exact h
      · rw [List.getElem?_eq_none h] at hi; cases hi
    have hx' : xs[i]? = some (xs.getD i .non) := by
      rw [List.getD_eq_getElem?_getD, List.getElem?_eq_getElem (by omega)]
      rfl
    exact ((he1 i _ hx').mono (Kp.of_dr (upd_some hr0) d2)).weak fun _ _ => rfl
  have D12 := d1.trans d2
  refine for_f walk_range (fun i σ H' => ∃ a b c d e, σ = [some (.ref r), some (.ref D1), a, some (.ref D2), b, c, d, e] ∧ Ex H2 H') ⟨_, _, _, _, _, rfl, Same.refl _⟩ (fun _ _ _ _ _ => trivial) ?_ ?_
  rotate_left
  · rintro σ H3 ⟨a, b, c, d, e, rfl, ex⟩
    walk_at "rd"
    exact hQ _ (D12.ex ex)
  rintro i x σ H3 H4 hi ⟨a, b, c, d, e, rfl, ex3⟩ ⟨rfl, rfl⟩
  walk_at "rd"
  refine ⟨⟨_, SqL.of (ex3 _ _ hy)⟩, ?_⟩
  refine for_f (walk_list (xs := ys)) (fun i σ H' => ∃ a b c d e, σ = [some (.ref r), some (.ref D1), a, some (.ref D2), b, c, d, e] ∧ Ex H2 H') ⟨_, _, _, _, _, rfl, ex3⟩ (fun i σ H' _ h => by obtain ⟨_, _, _, _, _, _, e⟩ := h; exact SqL.of (e _ _ hy)) ?_ ?_
  rotate_left
  · rintro σ H3 ⟨a, b, c, d, e, rfl, ex⟩
    exact ⟨_, _, _, _, _, rfl, ex⟩
  rintro j y σ H5 H6 hj ⟨a, b, c, d, e, rfl, ex5⟩ ⟨rfl, hyj⟩
  obtain ⟨p, v, n, rfl, hp, hv, hn, hno⟩ := all j y hyj
  walk_at "rd"
  have hv6 := hv.mono (Kp.of_ex ex5)
  have hn6 := hn.mono (Kp.of_ex ex5)
  obtain ⟨t1, as1, l1, a1, r1⟩ := shows hv6
  obtain ⟨t2, as2, l2, a2, r2⟩ := shows hn6
  have pairS : ∀ {H' : Hp} {L : Addr} {Q' : VK}, Ex H6 H' → H' L = none → (∀ H'', Ex (upd H' L (.lst [v, n])) H'' → Q' (.str (listText [t1, t2])) H'') → rReprL X 2 2 [.ref L] (upd H' L (.lst [v, n])) Q' := by
    intro H' L Q' ex hL hq
    have e2 : Ex H6 (upd H' L (.lst [v, n])) := ex.trans (Ex.new hL)
    refine ⟨L, [v, n], as1 ++ as2, [t1, t2], rfl, nofun, upd_same, fun z => ?_, .cons (fun u ru => ((r1 u ru).ex e2).more fun b hb => List.mem_append_left _ hb) (.cons (fun u ru => ((r2 u ru).ex e2).more fun b hb => List.mem_append_right _ hb) .nil), ?_, hq⟩
    · rcases List.mem_append.mp z with z | z
      · exact a1 L z (ex.free hL)
      · exact a2 L z (ex.free hL)
    · refine Nat.le_trans (listText_len_le _) ?_
      simp only [List.map_cons, List.map_nil, List.sum_cons, List.sum_nil, List.length_cons, List.length_nil]
      exact Nat.le_trans (show t1.length + (t2.length + 0) + 2 * 2 + 3 ≤ 30000 by omega) (by decide)
  have boolS : ∀ {H' : Hp} {L : Addr} {Q' : VK}, H' L = some (.lst ((dueL v).map V.bl)) → (∀ H'', Ex H' H'' → Q' (.str (listText (((dueL v).map V.bl).map flT))) H'') → rReprL X 2 2 [.ref L] H' Q' := by
    intro H' L Q' hL hq
    refine ⟨L, _, [], _, rfl, by simp [dueL], hL, fun z => (nomatch z), .flat fun x hx => ?_, bool_text _ (by simp [dueL, part]), hq⟩
    obtain ⟨b, _, rfl⟩ := List.mem_map.mp hx
    trivial
  refine ⟨[v, n], SqT.of (ex5 _ _ hp), rfl, v, [n], rfl, n, [], rfl, rfl, by decide, fun L hL => pairS (Same.refl _) hL fun H7 e7 => ?_⟩
  have E7 : Ex H6 H7 := (Ex.new hL).trans e7
  have tv : ∀ {H' : Hp}, Ex H6 H' → Ty K H' v := fun e => (hv6.mono (Kp.of_ex e)).ty T
  have tn : ∀ {H' : Hp}, Ex H6 H' → Ty K H' n := fun e => (hn6.mono (Kp.of_ex e)).ty T
  refine ⟨v, n, rfl, fun H' e => tv (E7.trans e), fun H' e => tn (E7.trans e), hno, fun D H8 hD e8 h8 => boolS h8 fun H9 e9 => ?_⟩
  have E9 : Ex H6 H9 := (E7.trans e8).trans e9
  refine ⟨v, rfl, fun H' e => tv (E9.trans e), fun D' H10 hD' e10 h10 => boolS h10 fun H11 e11 => ?_⟩
  have E11 : Ex H6 H11 := (E9.trans e10).trans e11
  refine ⟨scal_ss, ?_⟩
  rw [if_neg (fun z => z rfl)]
  refine ⟨by decide, fun L' hL' => pairS E11 hL' fun H12 e12 => ⟨scal_ss, ?_⟩⟩
  rw [if_neg (fun z => z rfl)]
  exact ((ex5.trans E11).trans (Ex.new hL')).trans e12
def spLaw (K : PySem.W.Frag) : Sp := fun vs H Q _ => ∃ (a : Addr) (ns : List Int), vs = [.ref a] ∧ SqL K H a (ns.map V.int) ∧ ∀ H', Q (.bl true) H'
theorem ok_law (T : Txt K mg) : Fo true P w K mg base CX0 7 d_law ["_law_script"] (spLaw K) := by
  obtain ⟨fd, F⟩ := T.dfn 29 (d := d_law)
  refine ⟨fd, Fq.mk' F sc_law (fun vs H Q E h => ?_) (fun cdv A outer s H vs Q E hg hr h => ?_), F⟩
  · obtain ⟨a, ns, rfl, _⟩ := h
    rfl
  obtain ⟨a, ns, rfl, hS, hQ⟩ := h
  refine ⟨_, (PSs.nox (pss_one (ps_ret (pe_callB (cr_all rfl) rfl (T.free 41) (by decide +kernel) (pa_cons (pe_lc (own := [("_law_k", 1)]) rfl sc_law.nd (pi_range1 rfl (T.free 45) (pa_cons (pe_callB (call_max2 rfl) rfl (T.free 50) (by decide +kernel) (pa_cons pe_int (pa_cons (pe_callB (call_min2 rfl) rfl (T.free 55) (by decide +kernel) (pa_cons (pe_callB call_len_seq rfl (T.free 48) (by decide +kernel) (pa_cons (pv 0) pa_nil)) (pa_cons pe_int pa_nil))) pa_nil))) pa_nil)) (blkOk_by (own := [("_law_k", 1)]) (N := N_law) (sc := defScope s_law) (by decide +kernel)) (fun _ _ _ _ _ => (pg_name (i := 1) sc_law.nd rfl (Or.inl rfl))) (fun _ _ _ _ _ => pts_nil) (fun _ _ _ _ _ => (pe_o (ok_law_right T) (T.glo 35) (b_law_right) hg (hr.mono (by decide)) rfl pass0 (pa_cons (pe_o (ok_law_rng T) (T.glo 21) (b_law_rng) gd_false (hr.mono (by decide)) rfl pass0 (pa_cons (pv 0) (pa_cons (pv 1) pa_nil))) pa_nil)))) pa_nil))))), ?_⟩
  walk_at "rd"
  refine ⟨_, .inl hS, ?_⟩
  generalize hm : (if (if (8 : Int) < ((List.map V.int ns).length : Int) then (8 : Int) else ((List.map V.int ns).length : Int)) > 1 then if (8 : Int) < ((List.map V.int ns).length : Int) then (8 : Int) else ((List.map V.int ns).length : Int) else 1) = m
  have m0 : 0 ≤ m ∧ m ≤ 8 := by
    rw [← hm]
    split <;> split <;> omega
  refine ⟨by omega, by omega, ?_⟩
  refine lc_val walk_range (fun _ _ => trivial) (by omega) (fun _ => .bl true) ?_ ?_
  · rintro i x H1 H2 hi e ⟨rfl, rfl⟩ Qn k
    walk_at "rd"
    refine ⟨rfl, _, rfl, _, rfl, a, ns, _, rfl, ex_seqL e hS, by omega, by omega, fun p H3 hp e3 hR => ⟨p, rfl, hR, fun H4 d4 => k _ fun b o q => ?_⟩⟩
    exact d4.get (ne_of_none q hp) (e3 _ _ q)
  · intro D H' hD e hl
    refine ⟨D, rfl, List.replicate m.toNat true, SqL.of (hl.trans ?_), ?_⟩
    · simp [List.map_const']
    · have e1 : (List.replicate m.toNat true).all id = true := by
        rw [List.all_eq_true]
        intro b hb
        exact (List.mem_replicate.mp hb).2
      rw [e1]
      exact hQ _
end
end K11

set_option Elab.async false
set_option linter.all false
set_option maxRecDepth 100000
set_option maxHeartbeats 0
namespace K11
open PySem PySem.Spec PyProof.Rows L2 Ab
abbrev R : PySem.W.OpenRow := PySem.W.OpenLaw.row PySem.Challenge.rw_aboveless_k11_values_judged
abbrev hk : PySem.W.Hook := hookX 5 fa fn exB
def ob (s : PySem.W.SharedT) : AlX := obsXG 5 fa fn exB (HandSHeadRun.getT s)
theorem ob_eq (s : PySem.W.SharedT) : ob s = hk.obs s.abs := obsXG_eq (HandSHeadRun.getT_eq s)
def names : List PySem.Str := (["_wall", "InvalidError", "InvalidName", "InvalidLabel", "LimitError", "TooMany", "INT", "TEXT", "TRUTH", "SORTS", "LETTERS", "QUOTE"] : List PySem.Str) ++ (["LONGEST_NAME", "LONGEST_STRING", "is_name", "is_integer", "is_count", "is_value", "want_label", "marks_in_order", "Label", "_law_rng", "_law_draw", "_law_choice"] : List PySem.Str) ++ (["_law_letters", "_law_digits", "_law_string", "_law_number", "_law_thing", "_law_no_sort", "_law_is_whole", "_law_is_word", "_law_fits", "_law_told", "_law_due", "_law_right"] : List PySem.Str)
theorem run (w : World) : HandSHeadRun.RunEq R (PySem.W.view R.prog [40]) hk ob 6000 names w := by
  intro os
  kernel_rfl
end K11
open PySem PySem.W PySem.Calls PyProof.Rows
theorem PySem.Challenge.cw_aboveless_k11_values_judged_holds : PySem.Challenge.rw_aboveless_k11_values_judged.Holds := by
  w_on; o_law
  refine HandSHeadRun.head_any (r := OpenLaw.row PySem.Challenge.rw_aboveless_k11_values_judged) (q := view (OpenLaw.row PySem.Challenge.rw_aboveless_k11_values_judged).prog [40]) (H := K11.hk) (ob := K11.ob) (M := 6000) (loose := K11.names) (d := HandSHeadRun.topDef (OpenLaw.row PySem.Challenge.rw_aboveless_k11_values_judged).prog 40) (kwd := []) K11.ob_eq
    (by kernel_rfl) (fun s => by kernel_rfl) K11.run (by kernel_rfl) (by kernel_rfl) (by kernel_rfl) (by rfl) (by first | assumption | decide +kernel) (by decide +kernel) ⟨rfl, rfl, rfl, rfl, rfl, by decide +kernel⟩ ?hw ?hc
  case hw => w_witness2
  case hc =>
    refine Ab.walk_q (l := PySem.Challenge.rw_aboveless_k11_values_judged) (n := 63) (k := 7) (x := "_law_script") rfl (by decide) (by kernel_rfl) ⟨rfl, by decide, by decide⟩ ?F
    intro w mg f h Y G hmg0
    obtain ⟨K, KX, c⟩ := Y
    have hmg : mg ("law" : PySem.Str) = some (.ref f) := by
      have e : (HandSHeadRun.topDef (OpenLaw.row PySem.Challenge.rw_aboveless_k11_values_judged).prog 40).name = ("law" : PySem.Str) := by kernel_rfl
      rw [← e]
      exact hmg0
    have T : K11.Txt K mg := ⟨⟨h, KX, G⟩, c⟩
    have ef := hmg.symm.trans (T.glo 36 (x := "law"))
    cases ef
    obtain ⟨fd, FD⟩ := T.dfn 29 (d := K11.d_law)
    have b := L2.FunD.bindsA (ps := ["_law_script"]) FD fun _ _ _ _ _ _ us hl => match us, hl with | [_], _ => rfl
    refine ⟨K, fd, K11.spLaw K, KX, fun s u => b s [u] rfl, fun H a ns hl hS => ⟨a, ns, rfl, hS, fun _ => rfl⟩, fun base _ _ => ?_⟩
    obtain ⟨fd', F', FD'⟩ := K11.ok_law (P := (PySem.Challenge.rw_aboveless_k11_values_judged).prog) (w := w) (base := base) T
    exact Ab.fd_eq FD FD' ▸ F'
