import PyProof.Rows.All
import Wide.All
import OpenK.AllK
import Wide.FinOn
import HandS.ForMost
import PyProof.ReprRoads
import HandS.TupAny
import HandS.IsInst
import HandS.Style
import HandS.Strs
import HandS.NoneIn
import HandS.Set
import HandS.SetFor
import PyProof.StrWalks
import PyProof.ListStr
import PyProof.Rows.SortShellAny
import PyProof.Rows.IntBool
import PyProof.CallStr
import PyProof.ReprLen
import HandS.RaiseMore
import PyProof.Rows.ReprOcc
import PySem.Challenge.RW_loomhold_k59_motions_of_any_value
set_option Elab.async false
set_option linter.all false
set_option maxRecDepth 100000
set_option maxHeartbeats 2000000
/-! D0: defs whose promise may lean on the stack having no guard (repr), and the law's end over such promises. -/
namespace DL
open PySem PySem.Spec PyProof.Rows L2

/-- a def's promise, asked only where no guard runs -/
structure FnG (P : Program) (w : World) (K : PySem.W.Frag) (mg : Str → Option Value) (base : Heap) (CX : CXT) (k : Nat) (f : Addr) (fd : FuncData) (ps : List Str) (sp : Sp) : Prop where
  len : ∀ vs H Q E, sp vs H Q E → vs.length = ps.length
  go : ∀ (A : Around) (outer : List Env) (s : Shared) (H : Hp) (args : Args) (us : List Value) (vs : List V) (Q : VK) (E : XK),
    A.guards = some [] → Room k A → Env0 P w K mg base A outer s H → BindsTo s fd args (ps.zip us) → Vals vs us → sp vs H Q E → codeAny (model P w) A (.call (.ref f) args) (CR CX outer P w H s Q E) s

section
variable {P : Program} {w : World} {K : PySem.W.Frag} {mg : Str → Option Value} {base : Heap} {CX : CXT} {k : Nat} {f : Addr} {fd : FuncData} {ps : List Str} {sp : Sp}

theorem FnG.of (F : FnOk P w K mg base CX k f fd ps sp) : FnG P w K mg base CX k f fd ps sp :=
  ⟨F.len, fun A outer s H args us vs Q E _ hr => F.run A outer s H args us vs Q E hr⟩
theorem FnG.mono {j : Nat} (F : FnG P w K mg base CX j f fd ps sp) (h : j ≤ k) : FnG P w K mg base CX k f fd ps sp :=
  ⟨F.len, fun A outer s H args us vs Q E hg hr => F.go A outer s H args us vs Q E hg (hr.mono h)⟩

/-- what a body must show: the reading of its derivation, where no guard runs -/
theorem fn_ofG {name qual : Str} {params : Arguments} {body : List Stmt} {scope : Scope} {dV kV doc pm cdv ct oc : Value} {an od : Option Addr} {osl : Array (Option Value)} {N : List Str}
    (lk : K.lookup f = some ⟨oc, od, .func (PySem.W.fnOf name qual params body scope dV kV doc pm an cdv ct), osl⟩)
    (hcd : PySem.W.codeIn K cdv qual = true) (S : FnScope N ps scope) (len : ∀ vs H Q E, sp vs H Q E → vs.length = ps.length)
    (hb : ∀ (A : Around) (outer : List Env) (s : Shared) (H : Hp) (vs : List V) (Q : VK) (E : XK), A.guards = some [] →
      Room k (A.deeper (envOfC qual scope s.heap.objs.size f cdv)) → sp vs H Q E →
      ∃ t, PSs (cxOf CX P w K mg base N qual scope f cdv A outer s H E) body t ∧ t { nx := fun _ H' => Q .non H', rt := Q } (start N vs) H) :
    FnG P w K mg base CX (k + 1) f (PySem.W.fnOf name qual params body scope dV kV doc pm an cdv ct) ps sp := by
  refine ⟨len, fun A outer s H args us vs Q E hg hr e0 hbd r hsp => ?_⟩
  have KX : K.In s.heap := e0.mod.kin.keeps fun b o e => (e0.bs b o e).1
  refine codeAny_call_function hr.depth (KX _ _ lk) rfl S.co S.gen rfl (PySem.W.codeRec_of KX hcd) (hbd _ _ _ _ ?_)
  refine wpAny_newFunctionEnv_cells S.kind (fun y hy => ?_) fun env he s1 x => ?_
  · obtain ⟨n, v⟩ := y
    cases S.par n (List.of_mem_zip hy).1 with
    | inl q => exact .inl q
    | inr q => exact .inr ⟨q, PySem.W.cellsFrom_some _ _ _ (.inl q)⟩
  subst he
  refine ⟨(e0.mod.nolimit.keeps fun b o e => (e0.bs b o e).1).keeps x.toInCall.keep, codeAny_func ?_⟩
  obtain ⟨t, ht, hq⟩ := hb A outer s H vs Q E hg (hr.deeper _) hsp
  have I := inv_start (CX := CX) (E := E) S hr.hd e0 (len _ _ _ _ hsp) r x
  refine wpAny_mono (ht.run [] s1 (start N vs) H _ I hq) (fun fl s' hs => ?_) fun e s' hs => hs
  match fl, hs with
  | .ret u, ⟨v, σ', H', J, rv, q⟩ => exact ⟨v, H', J.os, J.bare, J.base, J.hok, rv, q⟩
  | .next, ⟨σ', H', J, q⟩ => exact ⟨V.non, H', J.os, J.bare, J.base, J.hok, rfl, q⟩
  | .brk, ⟨_, _, _, q⟩ => exact q.elim
  | .cont, ⟨_, _, _, q⟩ => exact q.elim

theorem okG {x qual : Str} {st : Stmt} {N : List Str} (F : Fun K x qual st f fd) (S : FnScope N ps (defScope st)) (len : ∀ vs H Q E, sp vs H Q E → vs.length = ps.length)
    (hb : ∀ (cdv : Value) (A : Around) (outer : List Env) (s : Shared) (H : Hp) (vs : List V) (Q : VK) (E : XK), A.guards = some [] →
      Room k (A.deeper (envOfC qual (defScope st) s.heap.objs.size f cdv)) → sp vs H Q E →
      ∃ t, PSs (cxOf CX P w K mg base N qual (defScope st) f cdv A outer s H E) (defBody st) t ∧ t { nx := fun _ H' => Q .non H', rt := Q } (start N vs) H) : FnG P w K mg base CX (k + 1) f fd ps sp := by
  obtain ⟨oc, od, kV, doc, pm, an, cdv, ct, osl, rfl, lk, hcd⟩ := F.ex
  exact fn_ofG lk hcd S len fun A outer s H vs Q E => hb cdv A outer s H vs Q E
end

section
variable {X : Cx} {CX : CXT} {k : Nat} {f : Addr} {fd : FuncData} {ps ks : List Str} {sp : Sp} {E : XK} {x : Str} {p pos : Pos} {e : Expr} {es : List Expr} {kws : List Keyword} {t tk : TA}
  {g : List Value → List Value → List Value} {gV : List V → List V → List V}

theorem runG {pins : List (Addr × Obj)} {σ : L2.St} {H : Hp} {s : Shared} {Q : VK} {args : Args} {us : List Value} {vs : List V} (F : FnG X.prog X.w X.K X.mg X.base CX k f fd ps sp) (hg : X.A.guards = some []) (hr : Room k X.A)
    (hx : Passes CX X E) (I : Inv X pins σ H s) (hb : BindsTo s fd args (ps.zip us)) (r : Vals vs us) (h : sp vs H Q E) : wpAny (model X.prog X.w) X.A (call (.ref f) args.pos args.kw) (EP X pins σ Q) X.xe s := by
  refine wpAny_call (codeAny_mono (F.go X.A X.stack s H _ us vs Q E hg hr I.env0 hb r h) fun z s' hq => ?_)
  match z, hq with
  | .error e, hq => exact hx pins σ H s e s' I hq
  | .ok (.ret u), hq => exact I.after hq
  | .ok .next, hq => exact hq.elim
  | .ok .brk, hq => exact hq.elim
  | .ok .cont, hq => exact hq.elim

/-- f(e, ..) with positional arguments only, all given -/
theorem pe_cG (F : FnG X.prog X.w X.K X.mg X.base CX k f fd ps sp) (hgd : X.A.guards = some []) (hr : Room k X.A) (hg : Gl X x) (hm : X.mg x = some (.ref f)) (hk : PySem.W.keepIn X.K (.ref f) = true) (hb : Binds X.K fd ps []) (hx : Passes CX X E)
    (ha : PA X (e :: es) t) (hdb : (x == ("__debug__" : Str)) = false := by decide) (he : starEach (e :: es) X.env = (false, eval e X.env) :: starEach es X.env := by rfl) (hpl : (backTo pos (starEach es X.env)).any (·.1) = false := by rfl) :
    PE X (.Call (.Name x p) (e :: es) [] pos) (tCall sp [] E t) := by
  refine ⟨fun pins s σ H Q I h => wpAny_Call_Name_kw (ld_glob I hg hm ?_ hdb)⟩
  refine PySem.W.callWith_K (h₀ := X.base) I.ok.mod.kin hk (thn (ha.run pos pins s σ H _ I h) fun us s1 ⟨vs, H1, I1, r, q⟩ => ⟨I1.kIn, ?_⟩) he hpl
  have q' : sp vs H1 Q E := by simpa using q
  have hl : (us ++ []).length = ps.length := by rw [List.append_nil, ← r.length]; exact F.len _ _ _ _ q'
  have b := hb s1 us I1.kIn hl
  rw [List.append_nil] at b
  exact runG F hgd hr hx I1 b r q'
/-- f() -/
theorem pe_cG0 (F : FnG X.prog X.w X.K X.mg X.base CX k f fd [] sp) (hgd : X.A.guards = some []) (hr : Room k X.A) (hg : Gl X x) (hm : X.mg x = some (.ref f)) (hk : PySem.W.keepIn X.K (.ref f) = true) (hb : Binds X.K fd [] []) (hx : Passes CX X E)
    (hdb : (x == ("__debug__" : Str)) = false := by decide) : PE X (.Call (.Name x p) [] [] pos) (tCall sp [] E tNil) := by
  refine ⟨fun pins s σ H Q I h => wpAny_Call_Name_kw (ld_glob I hg hm (PySem.W.callWith_K0 I.kIn hk ?_) hdb)⟩
  exact runG (args := ⟨[], []⟩) (us := []) F hgd hr hx I (hb s [] I.kIn rfl) .nil h
/-- f(e, .., k = v, ..) -/
theorem pe_cGK (F : FnG X.prog X.w X.K X.mg X.base CX k f fd ps sp) (hgd : X.A.guards = some []) (hr : Room k X.A) (hg : Gl X x) (hm : X.mg x = some (.ref f)) (hk : PySem.W.keepIn X.K (.ref f) = true) (hb : KBinds X.K fd ps ks g gV) (hx : Passes CX X E)
    (ha : PA X (e :: es) t) (hkw : PK X kws tk) (hall : (backToKw pos (keywordEach kws X.env)).all (·.1.isSome) = true := by rfl) (hks : (backToKw pos (keywordEach kws X.env)).filterMap (·.1) = ks := by rfl)
    (hdb : (x == ("__debug__" : Str)) = false := by decide) (he : starEach (e :: es) X.env = (false, eval e X.env) :: starEach es X.env := by rfl)
    (hpl : ((backTo pos (starEach (e :: es) X.env)).any (·.1) || (backToKw pos (keywordEach kws X.env)).any (·.1.isNone)) = false := by rfl) :
    PE X (.Call (.Name x p) (e :: es) kws pos) (tCallK sp gV E t tk) := by
  refine ⟨fun pins s σ H Q I h => wpAny_Call_Name_kw (ld_glob I hg hm ?_ hdb)⟩
  refine PySem.W.callWith_KW (h₀ := X.base) I.ok.mod.kin hk hall (thn (ha.run pos pins s σ H _ I h) fun us s1 ⟨vs, H1, I1, r, q⟩ => ?_) hpl he
  refine thn (hkw.run pos pins s1 σ H1 _ I1 q) fun ws s2 ⟨zs, H2, I2, rz, q2⟩ => ⟨I2.kIn, ?_⟩
  rw [hks]
  have r2 := hb.rel r rz
  have hl : (g us ws).length = ps.length := by rw [← r2.length]; exact F.len _ _ _ _ q2
  exact runG (args := ⟨us, ks.zip ws⟩) F hgd hr hx I2 (hb.to s2 us ws I2.kIn hl) r2 q2
/-- f(k = v, ..) -/
theorem pe_cGK0 (F : FnG X.prog X.w X.K X.mg X.base CX k f fd ps sp) (hgd : X.A.guards = some []) (hr : Room k X.A) (hg : Gl X x) (hm : X.mg x = some (.ref f)) (hk : PySem.W.keepIn X.K (.ref f) = true) (hb : KBinds X.K fd ps ks g gV) (hx : Passes CX X E)
    (hkw : PK X kws tk) (hall : (backToKw pos (keywordEach kws X.env)).all (·.1.isSome) = true := by rfl) (hks : (backToKw pos (keywordEach kws X.env)).filterMap (·.1) = ks := by rfl)
    (hdb : (x == ("__debug__" : Str)) = false := by decide)
    (hpl : ((backTo pos (starEach [] X.env)).any (·.1) || (backToKw pos (keywordEach kws X.env)).any (·.1.isNone)) = false := by rfl) :
    PE X (.Call (.Name x p) [] kws pos) (tCallK sp gV E tNil tk) := by
  refine ⟨fun pins s σ H Q I h => wpAny_Call_Name_kw (ld_glob I hg hm ?_ hdb)⟩
  refine PySem.W.callWith_KW0 (h₀ := X.base) I.ok.mod.kin hk hall ?_ hpl
  refine thn (hkw.run pos pins s σ H _ I h) fun ws s2 ⟨zs, H2, I2, rz, q2⟩ => ⟨I2.kIn, ?_⟩
  rw [hks]
  have r2 := hb.rel (vs := []) (us := []) .nil rz
  have hl : (g [] ws).length = ps.length := by rw [← r2.length]; exact F.len _ _ _ _ q2
  exact runG (args := ⟨[] ++ [], ks.zip ws⟩) F hgd hr hx I2 (hb.to s2 [] ws I2.kIn hl) r2 q2
end

/-! ### the law's end -/
section
variable {P : Program} {w : World} {K : PySem.W.Frag} {mg mb : Str → Option Value} {CX : CXT} {k : Nat} {fa a : Addr} {fd : FuncData} {x : Str} {sp : Sp} {s₁ : Shared} {vs : List Value} {ns : List Int}
/-- the call of the law over one abstract heap -/
theorem lawG_at {H : Hp} (KX : K.In s₁.heap) (hns : s₁.heap.Ns mainGlobals mg) (hb : s₁.heap.Ns builtinsNs mb) (hbb : ∀ x : Str, x ≠ "__name__" → mb x = bootBuiltins x) (hlim : s₁.heap.NoLimit) (hg : s₁.gens = #[])
    (ha : s₁.heap.get? a = some { cls := .type "list", data := .seq vs.toArray }) (hr : Room k callerA)
    (F : ∀ base : Heap, K.In base → base.Ns mainGlobals mg → FnG P w K mg base CX k fa fd [x] sp) (hbind : ∀ (s : Shared) (u : Value), BindsTo s fd ⟨[u], []⟩ [(x, u)])
    (hCX : ∀ H e s', CX [] H s₁ (fun _ _ _ => False) e s' → False) (hO : Only H) (hok : HOk P w H s₁.heap) (hA : ∀ b, H b ≠ none → b = a) (hK : H a ≠ none → K.lookup a = none)
    (hsp : sp [.ref a] H (fun v _ => v = .bl true) fun _ _ _ => False) :
    codeAny (model P w) callerA (.call (.ref fa) ⟨[.ref a], []⟩) (fun r s' => r = .ok (.ret (.bool true)) ∧ OldK s₁.heap s'.heap ∧ s'.os = s₁.os ∧ AllBare s'.gens) s₁ := by
  have base_of : ∀ {b : Addr} {o : Obj}, s₁.heap.get? b = some o → H b = none → (hidT s₁.heap H).get? b = some o := fun e n => hidT_get e n
  have other : ∀ {b : Addr} {o : Obj}, s₁.heap.get? b = some o → (∀ vs n, o.data ≠ .seq vs n) → H b = none := fun {b o} e d => by
    match q : H b with
    | none => rfl
    | some u =>
      have e' : b = a := hA b (by rw [q]; exact nofun)
      rw [e', ha] at e
      cases e
      exact absurd rfl (d _ _)
  have nsK : ∀ {b : Addr} {m : Str → Option Value}, s₁.heap.Ns b m → (hidT s₁.heap H).Ns b m := fun {b m} ⟨o, es, ep, e, d, r⟩ =>
    ⟨o, es, ep, base_of e (other e fun _ _ z => by rw [d] at z; cases z), d, r⟩
  have hKb : K.In (hidT s₁.heap H) := fun b o e => base_of (KX b o e) (by
    match q : H b with
    | none => rfl
    | some u =>
      have e' : b = a := hA b (by rw [q]; exact nofun)
      rw [e', hK (by rw [← e', q]; exact nofun)] at e
      cases e)
  have hM : Mod K mg (hidT s₁.heap H) := ⟨hKb, nsK hns, ⟨mb, nsK hb, hbb⟩, let ⟨mc, h1, h2⟩ := hlim; ⟨mc, nsK h1, h2⟩⟩
  have e0 : Env0 P w K mg (hidT s₁.heap H) callerA [] s₁ H := ⟨rfl, hM, fun b o e => of_hidT e, Nat.le_of_eq (hidT_size _ _), trivial, fun b z => absurd (show b ∈ ([] : List Addr) from z) (by simp), hok, .of_eq hg⟩
  refine codeAny_mono ((F _ hKb (nsK hns)).go callerA [] s₁ H ⟨[.ref a], []⟩ [.ref a] [.ref a] _ _ rfl hr e0 (hbind s₁ (.ref a)) (.cons rfl .nil) hsp) fun r s' h => ?_
  match r, h with
  | .error e, h => exact (hCX H e s' h).elim
  | .ok .next, h => exact h.elim
  | .ok .brk, h => exact h.elim
  | .ok .cont, h => exact h.elim
  | .ok (.ret u), ⟨v, H', os, bare, un, hok', r', q⟩ =>
    obtain rfl : v = .bl true := q
    obtain rfl : u = Value.bool true := r'
    refine ⟨rfl, OldK.of_keep fun b o e => ?_, os, bare⟩
    rcases hO b with z | ⟨ob, xs, z⟩
    · exact un.keep b o e z (fun y => absurd (show b ∈ ([] : List Addr) from y) (by simp)) (by simp)
    · obtain ⟨e1, _⟩ := hok b _ z
      obtain ⟨e2, _⟩ := hok' b _ (un.frzs b ob _ z)
      rw [e] at e1
      cases e1
      exact e2
theorem lawG (KX : K.In s₁.heap) (hns : s₁.heap.Ns mainGlobals mg) (hb : s₁.heap.Ns builtinsNs mb) (hbb : ∀ x : Str, x ≠ "__name__" → mb x = bootBuiltins x) (hlim : s₁.heap.NoLimit) (hg : s₁.gens = #[])
    (ha : s₁.heap.get? a = some { cls := .type "list", data := .seq vs.toArray }) (hi : IntsAre vs ns) (hl : ns.length ≤ sizeLine) (hr : Room k callerA)
    (F : ∀ base : Heap, K.In base → base.Ns mainGlobals mg → FnG P w K mg base CX k fa fd [x] sp) (hbind : ∀ (s : Shared) (u : Value), BindsTo s fd ⟨[u], []⟩ [(x, u)])
    (hCX : ∀ H e s', CX [] H s₁ (fun _ _ _ => False) e s' → False)
    (hsp : ∀ H : Hp, Only H → SqL K H a (ns.map V.int) → sp [.ref a] H (fun v _ => v = .bl true) fun _ _ _ => False) :
    codeAny (model P w) callerA (.call (.ref fa) ⟨[.ref a], []⟩) (fun r s' => r = .ok (.ret (.bool true)) ∧ OldK s₁.heap s'.heap ∧ s'.os = s₁.os ∧ AllBare s'.gens) s₁ := by
  have rv := vals_ints hi
  match hk : K.lookup a with
  | some o =>
    have e := KX a o hk
    rw [ha] at e
    cases e
    have hS : SqL K (fun _ => none) a (ns.map V.int) := .inr ⟨_, vs.toArray, _, hk, rfl, rfl, rfl, by rw [List.size_toArray, hi.length]; exact hl, by simpa using rv⟩
    exact lawG_at (H := fun _ => none) KX hns hb hbb hlim hg ha hr F hbind hCX (fun _ => .inl rfl) (fun b u z => nomatch z) (fun b z => absurd rfl z) (fun z => absurd rfl z) (hsp _ (fun _ => .inl rfl) hS)
  | none =>
    let H : Hp := fun b => if b = a then some (.frz { cls := .type "list", data := .seq vs.toArray } (.lst (ns.map V.int))) else none
    have at_a : H a = some (.frz { cls := .type "list", data := .seq vs.toArray } (.lst (ns.map V.int))) := if_pos rfl
    have off : ∀ b, b ≠ a → H b = none := fun b hb => if_neg hb
    have hO : Only H := fun b => (Classical.em (b = a)).elim (fun z => .inr ⟨_, _, z ▸ at_a⟩) fun z => .inl (off b z)
    refine lawG_at (H := H) KX hns hb hbb hlim hg ha hr F hbind hCX hO (fun b u z => ?_) (fun b z => Classical.byContradiction fun y => z (off b y)) (fun _ => hk) (hsp _ hO (.inl (.inr ⟨_, at_a⟩)))
    by_cases y : b = a
    · subst y
      rw [at_a] at z
      cases z
      exact ⟨ha, by rw [List.length_map]; exact hl, vs, _, rv, ha⟩
    · rw [off b y] at z
      cases z
end
/-- the goal that k_head leaves, from the law's promise -/
theorem walkG {l : PySem.W.OpenLaw} {n k : Nat} {q : Program} {loose : List Str} {XP : (Str → Option Value) → Heap → Prop} {YP : World → Heap → Prop} {d : DefRec} {K : Params → PySem.W.Frag} {CX : World → CXT} {sp : World → Sp} {x : Str}
    (hn : l.most = some n) (hn2 : n ≤ sizeLine) (hdf : d.params.defaults = []) (hr : Room k callerA) (hY : ∀ (w : World) (h : Heap), YP w h → (K w.params).In h)
    (F : ∀ (w : World) (mg : Str → Option Value) (fa : Addr) (h : Heap), (K w.params).In h → h.Ns mainGlobals mg → mg d.name = some (.ref fa) →
      ∃ fd : FuncData, (∀ (s : Shared) (u : Value), BindsTo s fd ⟨[u], []⟩ [(x, u)]) ∧ ∀ base : Heap, (K w.params).In base → base.Ns mainGlobals mg → FnG l.prog w (K w.params) mg base (CX w) k fa fd [x] (sp w))
    (hsp : ∀ (w : World) (H : Hp) (a : Addr) (ns : List Int), ns.length ≤ n → Only H → SqL (K w.params) H a (ns.map V.int) → sp w [.ref a] H (fun v _ => v = .bl true) fun _ _ _ => False)
    (hCX : ∀ (w : World) (H : Hp) (s : Shared) (e : Value) (s' : Shared), CX w [] H s (fun _ _ _ => False) e s' → False) :
    PySem.W.WalkO q loose XP YP l.row.toRowW d [] (fun f vs => PySem.call f vs) :=
  Att.attach_call hn hdf fun w s₀ s₁ mg mb fa o pm cd doc a vs ns G Y ho hd hcd hmg hobj hints hlen hg => by
    have KX := hY w _ Y
    obtain ⟨fd, hb, hF⟩ := F w mg fa _ KX G.T.g hmg
    exact lawG KX G.T.g G.T.b G.T.builtins G.T.nolimit hg hobj hints (Nat.le_trans hlen hn2) hr hF hb (fun H e s' => hCX w H s₁ e s') fun H hO hS => hsp w H a ns hlen hO hS
end DL

set_option Elab.async false
set_option linter.all false
set_option maxRecDepth 100000
set_option maxHeartbeats 2000000
/-! D1: values as trees, and readings over them. -/
namespace DL
open PySem L2

/-- a value as a tree; deck: the drawing deck of a law (its one name that varies) -/
inductive Dv where
  | non | bl (b : Bool) | int (i : Int) | str (x : Str)
  | tup (ds : List Dv) | lst (ds : List Dv) | dic (es : List (Key × Dv))
  | ins (C : Addr) (fs : List (Str × Dv)) | deck (kb : Str) | scr (ns : List Int)

structure Dek where
  dk : Addr
  cl : Addr
  kb : Str
abbrev Wd := Option Dek
def Dk (wd : Wd) (a : Addr) : Prop := ∃ p, wd = some p ∧ (a = p.dk ∨ a = p.cl)
def lim : Nat := 1099511627776
/-- the deck stands, n more draws are free -/
def WOk (wd : Wd) (n : Nat) (H : Hp) : Prop := ∀ p, wd = some p → p.dk ≠ p.cl ∧ ∃ (m k : Int) (cs : List Int),
  H p.dk = some (.dK [(Sum.inr "cells", .ref p.cl), (Sum.inr p.kb, .int m), (Sum.inr "draws", .int k)]) ∧ H p.cl = some (.lst (cs.map V.int)) ∧ cs.length + n ≤ 8000000 ∧ 0 ≤ m ∧ m < 4294967296 ∧ 0 ≤ k ∧ k + n ≤ lim

/-- tuples and lists that are read: of the heap and not banned, or written by the top -/
def KT (K : PySem.W.Frag) (a : Addr) (xs : List V) : Prop := ∃ (o : Obj) (its : Array Value) (n : Nat), K.lookup a = some o ∧ o.cls = .type "tuple" ∧ o.data = .seq its n ∧ its.size ≤ sizeLine ∧ Vals xs its.toList
def KL (K : PySem.W.Frag) (a : Addr) (xs : List V) : Prop := ∃ (o : Obj) (its : Array Value) (n : Nat), K.lookup a = some o ∧ o.cls = .type "list" ∧ o.dict = none ∧ o.data = .seq its n ∧ its.size ≤ sizeLine ∧ Vals xs its.toList
def QS (B : Addr → Prop) (K : PySem.W.Frag) (H : Hp) (a : Addr) (xs : List V) : Prop := (¬ B a ∧ Rd H a (.lst xs)) ∨ KL K a xs
theorem QS.sq {B : Addr → Prop} {K : PySem.W.Frag} {H : Hp} {a : Addr} {xs : List V} (h : QS B K H a xs) : SqL K H a xs := h.elim (fun z => .inl z.2) .inr
def QT (B : Addr → Prop) (K : PySem.W.Frag) (H : Hp) (a : Addr) (xs : List V) : Prop := (¬ B a ∧ Rd H a (.tup xs)) ∨ KT K a xs
def QL (B : Addr → Prop) (K : PySem.W.Frag) (H : Hp) (a : Addr) (xs : List V) : Prop := ¬ B a ∧ H a = some (.lst xs)
theorem QT.sq {B : Addr → Prop} {K : PySem.W.Frag} {H : Hp} {a : Addr} {xs : List V} (h : QT B K H a xs) : SqT K H a xs := h.elim (fun z => .inl z.2) .inr
theorem QL.sq {B : Addr → Prop} {K : PySem.W.Frag} {H : Hp} {a : Addr} {xs : List V} (h : QL B K H a xs) : SqL K H a xs := .inl (.inl h.2)

mutual
inductive Dt (wd : Wd) (B : Addr → Prop) (K : PySem.W.Frag) (H : Hp) : V → Dv → Prop
  | non : Dt wd B K H .non .non
  | bl (b : Bool) : Dt wd B K H (.bl b) (.bl b)
  | int (i : Int) : Dt wd B K H (.int i) (.int i)
  | str (x : Str) : Dt wd B K H (.str x) (.str x)
  | tup {a : Addr} {xs : List V} {ds : List Dv} : QT B K H a xs → DtA wd B K H xs ds → Dt wd B K H (.ref a) (.tup ds)
  | lst {a : Addr} {xs : List V} {ds : List Dv} : QL B K H a xs → DtA wd B K H xs ds → Dt wd B K H (.ref a) (.lst ds)
  | dic {a : Addr} {kvs : List (Key × V)} {es : List (Key × Dv)} : ¬ B a → H a = some (.dK kvs) → DtK wd B K H kvs es → Dt wd B K H (.ref a) (.dic es)
  | ins {a C dx : Addr} {fs : List (Str × V)} {es : List (Str × Dv)} : ¬ B a → H a = some (.ins C dx fs) → DtF wd B K H fs es → Dt wd B K H (.ref a) (.ins C es)
  | deck {p : Dek} : wd = some p → Dt wd B K H (.ref p.dk) (.deck p.kb)
  | scr {a : Addr} {ns : List Int} : QS B K H a (ns.map V.int) → Dt wd B K H (.ref a) (.scr ns)
inductive DtA (wd : Wd) (B : Addr → Prop) (K : PySem.W.Frag) (H : Hp) : List V → List Dv → Prop
  | nil : DtA wd B K H [] []
  | cons {v : V} {d : Dv} {vs : List V} {ds : List Dv} : Dt wd B K H v d → DtA wd B K H vs ds → DtA wd B K H (v :: vs) (d :: ds)
inductive DtK (wd : Wd) (B : Addr → Prop) (K : PySem.W.Frag) (H : Hp) : List (Key × V) → List (Key × Dv) → Prop
  | nil : DtK wd B K H [] []
  | cons {k : Key} {v : V} {d : Dv} {vs : List (Key × V)} {ds : List (Key × Dv)} : Dt wd B K H v d → DtK wd B K H vs ds → DtK wd B K H ((k, v) :: vs) ((k, d) :: ds)
inductive DtF (wd : Wd) (B : Addr → Prop) (K : PySem.W.Frag) (H : Hp) : List (Str × V) → List (Str × Dv) → Prop
  | nil : DtF wd B K H [] []
  | cons {k : Str} {v : V} {d : Dv} {vs : List (Str × V)} {ds : List (Str × Dv)} : Dt wd B K H v d → DtF wd B K H vs ds → DtF wd B K H ((k, v) :: vs) ((k, d) :: ds)
end

section
variable {wd : Wd} {B B' : Addr → Prop} {K : PySem.W.Frag} {H H' : Hp}
theorem rd_move {a : Addr} {u : HO} (hp : ∀ a o, H a = some o → ¬ B a → H' a = some o) (hb : ¬ B a) (h : Rd H a u) : Rd H' a u := h.elim (fun z => .inl (hp _ _ z hb)) fun ⟨o, z⟩ => .inr ⟨o, hp _ _ z hb⟩
theorem rd_some {a : Addr} {u : HO} (h : Rd H a u) : H a ≠ none := h.elim (fun z => by rw [z]; exact nofun) fun ⟨o, z⟩ => by rw [z]; exact nofun
mutual
theorem Dt.move (hp : ∀ a o, H a = some o → ¬ B a → H' a = some o) (hb : ∀ a, B' a → B a ∨ H a = none) : ∀ (d : Dv) (v : V), Dt wd B K H v d → Dt wd B' K H' v d
  | .non, _, h => by cases h; exact .non
  | .bl b, _, h => by cases h; exact .bl b
  | .int i, _, h => by cases h; exact .int i
  | .str x, _, h => by cases h; exact .str x
  | .tup ds, _, h => by
    cases h with
    | tup q r =>
      refine .tup ?_ (DtA.move hp hb ds _ r)
      exact q.imp (fun ⟨z, y⟩ => ⟨fun x => (hb _ x).elim z (rd_some y), rd_move hp z y⟩) id
  | .lst ds, _, h => by
    cases h with
    | lst q r => exact .lst ⟨fun x => (hb _ x).elim q.1 (by rw [q.2]; exact nofun), hp _ _ q.2 q.1⟩ (DtA.move hp hb ds _ r)
  | .dic es, _, h => by
    cases h with
    | dic z y r => exact .dic (fun x => (hb _ x).elim z (by rw [y]; exact nofun)) (hp _ _ y z) (DtK.move hp hb es _ r)
  | .ins C es, _, h => by
    cases h with
    | ins z y r => exact .ins (fun x => (hb _ x).elim z (by rw [y]; exact nofun)) (hp _ _ y z) (DtF.move hp hb es _ r)
  | .deck kb, _, h => by
    cases h with
    | deck e => exact .deck e
  | .scr ns, _, h => by
    cases h with
    | scr q => exact .scr (q.imp (fun ⟨z, y⟩ => ⟨fun x => (hb _ x).elim z (rd_some y), rd_move hp z y⟩) id)
theorem DtA.move (hp : ∀ a o, H a = some o → ¬ B a → H' a = some o) (hb : ∀ a, B' a → B a ∨ H a = none) : ∀ (ds : List Dv) (vs : List V), DtA wd B K H vs ds → DtA wd B' K H' vs ds
  | [], _, h => by cases h; exact .nil
  | d :: ds, _, h => by
    cases h with
    | cons a r => exact .cons (Dt.move hp hb d _ a) (DtA.move hp hb ds _ r)
theorem DtK.move (hp : ∀ a o, H a = some o → ¬ B a → H' a = some o) (hb : ∀ a, B' a → B a ∨ H a = none) : ∀ (ds : List (Key × Dv)) (vs : List (Key × V)), DtK wd B K H vs ds → DtK wd B' K H' vs ds
  | [], _, h => by cases h; exact .nil
  | (k, d) :: ds, _, h => by
    cases h with
    | cons a r => exact .cons (Dt.move hp hb d _ a) (DtK.move hp hb ds _ r)
theorem DtF.move (hp : ∀ a o, H a = some o → ¬ B a → H' a = some o) (hb : ∀ a, B' a → B a ∨ H a = none) : ∀ (ds : List (Str × Dv)) (vs : List (Str × V)), DtF wd B K H vs ds → DtF wd B' K H' vs ds
  | [], _, h => by cases h; exact .nil
  | (k, d) :: ds, _, h => by
    cases h with
    | cons a r => exact .cons (Dt.move hp hb d _ a) (DtF.move hp hb ds _ r)
end
end

/-- what a def may do to the heap: all but the deck stays -/
def Ext0 (wd : Wd) (H H' : Hp) : Prop := ∀ a o, H a = some o → ¬ Dk wd a → H' a = some o
theorem Ext0.refl (wd : Wd) (H : Hp) : Ext0 wd H H := fun _ _ h _ => h
theorem Ext0.trans {wd : Wd} {H H1 H2 : Hp} (a : Ext0 wd H H1) (b : Ext0 wd H1 H2) : Ext0 wd H H2 := fun x o h z => b x o (a x o h z) z
theorem Ext0.same {wd : Wd} {H H' : Hp} (h : Same H H') : Ext0 wd H H' := fun a o e _ => h a o e
theorem same_new {H : Hp} {p : Addr} (h : H p = none) (o : HO) : Same H (upd H p o) := fun b u q => by rw [upd_ne (ne_of_none q h)]; exact q
theorem WOk.same {wd : Wd} {n : Nat} {H H' : Hp} (h : WOk wd n H) (s : Same H H') : WOk wd n H' := fun p e => by
  obtain ⟨ne, m, k, cs, h1, h2, r⟩ := h p e
  exact ⟨ne, m, k, cs, s _ _ h1, s _ _ h2, r⟩
theorem WOk.live {wd : Wd} {n : Nat} {H : Hp} (h : WOk wd n H) {a : Addr} (k : Dk wd a) : H a ≠ none := by
  obtain ⟨p, e, z⟩ := k
  obtain ⟨ne, m, k, cs, h1, h2, r⟩ := h p e
  rcases z with rfl | rfl
  · rw [h1]; exact nofun
  · rw [h2]; exact nofun
theorem WOk.less {wd : Wd} {n m : Nat} {H : Hp} (h : WOk wd n H) (l : m ≤ n) : WOk wd m H := fun p e => by
  obtain ⟨ne, a, k, cs, h1, h2, h3, h4, h5, h6, h7⟩ := h p e
  exact ⟨ne, a, k, cs, h1, h2, by omega, h4, h5, h6, by omega⟩

/-- a local: a tree that never changes, or an object of this def's alone -/
inductive Ob where
  | lst (ds : List Dv) | dic (es : List (Key × Dv))
inductive Dx where
  | fz (d : Dv) | own (o : Ob)
abbrev Env := List (Option Dx)
def Own (wd : Wd) (B : Addr → Prop) (K : PySem.W.Frag) (H : Hp) (a : Addr) : Ob → Prop
  | .lst ds => ∃ xs, H a = some (.lst xs) ∧ DtA wd B K H xs ds
  | .dic es => ∃ kvs, H a = some (.dK kvs) ∧ DtK wd B K H kvs es

/-- what stays through a def's body: the deck, what the caller bans, the written part, the heap at the entry -/
structure Cn where
  wd : Wd
  B : Addr → Prop
  K : PySem.W.Frag
  He : Hp
  lv : ∀ a, B a → He a ≠ none
structure Rel (c : Cn) (B : Addr → Prop) (n : Nat) (H : Hp) (σ : L2.St) (env : DL.Env) : Prop where
  len : σ.length = env.length
  wok : WOk c.wd n H
  dk : ∀ a, Dk c.wd a → B a
  live : ∀ a, B a → H a ≠ none
  ent : Ext0 c.wd c.He H
  fz : ∀ (i : Nat) (d : Dv), env[i]? = some (some (.fz d)) → ∃ v, σ[i]? = some (some v) ∧ Dt c.wd B c.K H v d
  own : ∀ (i : Nat) (o : Ob), env[i]? = some (some (.own o)) → ∃ a, σ[i]? = some (some (.ref a)) ∧ B a ∧ ¬ Dk c.wd a ∧ c.He a = none ∧ Own c.wd B c.K H a o
  inj : ∀ (i j : Nat) (o u : Ob) (a : Addr), env[i]? = some (some (.own o)) → env[j]? = some (some (.own u)) → σ[i]? = some (some (.ref a)) → σ[j]? = some (some (.ref a)) → i = j

section
variable {c : Cn} {B B' : Addr → Prop} {n m : Nat} {H H' : Hp} {σ : L2.St} {env : DL.Env}
theorem Own.move {wd : Wd} {K : PySem.W.Frag} (hp : ∀ a o, H a = some o → ¬ B a → H' a = some o) (hb : ∀ a, B' a → B a ∨ H a = none) {a : Addr} (ha : ∀ o, H a = some o → H' a = some o) : ∀ {o : Ob}, Own wd B K H a o → Own wd B' K H' a o
  | .lst ds, ⟨xs, h, r⟩ => ⟨xs, ha _ h, DtA.move hp hb ds _ r⟩
  | .dic es, ⟨xs, h, r⟩ => ⟨xs, ha _ h, DtK.move hp hb es _ r⟩
theorem Rel.keeps (R : Rel c B n H σ env) (e : Ext0 c.wd H H') : ∀ a o, H a = some o → ¬ B a → H' a = some o := fun a o h z => e a o h fun y => z (R.dk a y)
theorem Rel.dt (R : Rel c B n H σ env) (e : Ext0 c.wd H H') {v : V} {d : Dv} (h : Dt c.wd B c.K H v d) : Dt c.wd B c.K H' v d := Dt.move (R.keeps e) (fun _ z => .inl z) d v h
theorem Rel.dta (R : Rel c B n H σ env) (e : Ext0 c.wd H H') {v : List V} {d : List Dv} (h : DtA c.wd B c.K H v d) : DtA c.wd B c.K H' v d := DtA.move (R.keeps e) (fun _ z => .inl z) d v h
theorem Rel.ext (R : Rel c B n H σ env) (e : Ext0 c.wd H H') (w : WOk c.wd m H') : Rel c B m H' σ env where
  len := R.len
  wok := w
  dk := R.dk
  live := fun a h => by
    by_cases z : Dk c.wd a
    · exact w.live z
    · match q : H a with
      | none => exact absurd q (R.live a h)
      | some o => rw [e a o q z]; exact nofun
  ent := R.ent.trans e
  fz := fun i d h => let ⟨v, h1, h2⟩ := R.fz i d h; ⟨v, h1, R.dt e h2⟩
  own := fun i o h => let ⟨a, h1, h2, h3, h4, h5⟩ := R.own i o h; ⟨a, h1, h2, h3, h4, Own.move (R.keeps e) (fun _ z => .inl z) (fun o q => e a o q h3) h5⟩
  inj := R.inj
theorem Rel.same (R : Rel c B n H σ env) (e : Same H H') : Rel c B n H' σ env := R.ext (Ext0.same e) (R.wok.same e)
theorem Rel.less (R : Rel c B n H σ env) (l : m ≤ n) : Rel c B m H σ env := { R with wok := R.wok.less l }
theorem Rel.new (R : Rel c B n H σ env) {p : Addr} (h : H p = none) : ¬ B p := fun z => R.live p z h
theorem Rel.newHe (R : Rel c B n H σ env) {p : Addr} (h : H p = none) : c.He p = none := by
  match q : c.He p with
  | none => rfl
  | some o => rw [R.ent p o q fun z => R.new h (R.dk p z)] at h; cases h
/-- a store of a tree -/
theorem Rel.set (R : Rel c B n H σ env) (i : Nat) {v : V} {d : Dv} (h : Dt c.wd B c.K H v d) : Rel c B n H (σ.set i (some v)) (env.set i (some (.fz d))) where
  len := by rw [List.length_set, List.length_set, R.len]
  wok := R.wok
  dk := R.dk
  live := R.live
  ent := R.ent
  fz := fun j e hj => by
    by_cases q : i = j
    · subst q
      have l : i < env.length := by
        have := (List.getElem?_eq_some_iff.mp hj).1
        rwa [List.length_set] at this
      rw [List.getElem?_set_self l] at hj
      cases hj
      exact ⟨v, List.getElem?_set_self (by rw [R.len]; exact l), h⟩
    · rw [List.getElem?_set_ne q] at hj ⊢
      exact R.fz j e hj
  own := fun j o hj => by
    by_cases q : i = j
    · subst q
      have l : i < env.length := by
        have := (List.getElem?_eq_some_iff.mp hj).1
        rwa [List.length_set] at this
      rw [List.getElem?_set_self l] at hj
      cases hj
    · rw [List.getElem?_set_ne q] at hj ⊢
      exact R.own j o hj
  inj := fun j k o u a hj hk sj sk => by
    have no : ∀ {j : Nat} {o : Ob}, (env.set i (some (.fz d)))[j]? = some (some (.own o)) → i ≠ j := fun {j o} hj q => by
      subst q
      have l : i < env.length := by
        have := (List.getElem?_eq_some_iff.mp hj).1
        rwa [List.length_set] at this
      rw [List.getElem?_set_self l] at hj
      cases hj
    have nj := no hj
    have nk := no hk
    rw [List.getElem?_set_ne nj] at hj sj
    rw [List.getElem?_set_ne nk] at hk sk
    exact R.inj j k o u a hj hk sj sk
end
end DL

set_option Elab.async false
set_option linter.all false
set_option maxRecDepth 100000
set_option maxHeartbeats 2000000
/-! D2: the judgements over trees, expressions and statements. -/
namespace DL
open PySem L2

/-- an expression comes to a tree; a test to a Bool; arguments to trees -/
def ED (c : Cn) (t : TE) (n : Nat) (env : DL.Env) (R : Nat → Dv → Prop) : Prop := ∀ B H σ, Rel c B n H σ env → ∀ Q : VK,
  (∀ v H' n' d, Rel c B n' H' σ env → Ext0 c.wd H H' → Dt c.wd B c.K H' v d → R n' d → Q v H') → t σ H Q
def TD (c : Cn) (t : TT) (n : Nat) (env : DL.Env) (R : Nat → Bool → Prop) : Prop := ∀ B H σ, Rel c B n H σ env → ∀ Q : Bool → Hp → Prop,
  (∀ b H' n', Rel c B n' H' σ env → Ext0 c.wd H H' → R n' b → Q b H') → t σ H Q
def AD (c : Cn) (t : TA) (n : Nat) (env : DL.Env) (R : Nat → List Dv → Prop) : Prop := ∀ B H σ, Rel c B n H σ env → ∀ Q : List V → Hp → Prop,
  (∀ vs H' n' ds, Rel c B n' H' σ env → Ext0 c.wd H H' → DtA c.wd B c.K H' vs ds → R n' ds → Q vs H') → t σ H Q
/-- an operation on values, over trees: nothing that stands changes -/
def OD (c : Cn) (r : R2) (d e : Dv) (R : Dv → Prop) : Prop := ∀ B H x y, (∀ a, B a → H a ≠ none) → Dt c.wd B c.K H x d → Dt c.wd B c.K H y e → ∀ Q : VK,
  (∀ v H' z, Same H H' → Dt c.wd B c.K H' v z → R z → Q v H') → r x y H Q
def UD (c : Cn) (r : V → Hp → VK → Prop) (d : Dv) (R : Dv → Prop) : Prop := ∀ B H x, (∀ a, B a → H a ≠ none) → Dt c.wd B c.K H x d → ∀ Q : VK,
  (∀ v H' z, Same H H' → Dt c.wd B c.K H' v z → R z → Q v H') → r x H Q
def CD (c : Cn) (r : List V → Hp → VK → Prop) (ds : List Dv) (R : Dv → Prop) : Prop := ∀ B H xs, (∀ a, B a → H a ≠ none) → DtA c.wd B c.K H xs ds → ∀ Q : VK,
  (∀ v H' z, Same H H' → Dt c.wd B c.K H' v z → R z → Q v H') → r xs H Q

section
variable {c : Cn} {n : Nat} {env : DL.Env} {R : Nat → Dv → Prop} {ta tb te : TE} {tt : TT} {r : R2}
theorem ed_mono {R' : Nat → Dv → Prop} (h : ED c te n env R) (k : ∀ n d, R n d → R' n d) : ED c te n env R' := fun B H σ r Q q => h B H σ r Q fun v H' n' d a b e f => q v H' n' d a b e (k _ _ f)
theorem ed_var {i : Nat} {d : Dv} (h : env[i]? = some (some (.fz d))) (k : R n d) : ED c (tVar i) n env R := fun B H σ r Q q => by
  obtain ⟨v, e, hd⟩ := r.fz i d h
  exact ⟨v, e, q v H n d r (Ext0.refl _ _) hd k⟩
theorem ed_non (k : R n .non) : ED c (tC .non) n env R := fun B H σ r Q q => q _ H n _ r (Ext0.refl _ _) .non k
theorem ed_bl {b : Bool} (k : R n (.bl b)) : ED c (tC (.bl b)) n env R := fun B H σ r Q q => q _ H n _ r (Ext0.refl _ _) (.bl b) k
theorem ed_int {i : Int} (k : R n (.int i)) : ED c (tC (.int i)) n env R := fun B H σ r Q q => q _ H n _ r (Ext0.refl _ _) (.int i) k
theorem ed_str {x : Str} (k : R n (.str x)) : ED c (tC (.str x)) n env R := fun B H σ r Q q => q _ H n _ r (Ext0.refl _ _) (.str x) k
theorem ed_op (h : ED c ta n env fun n1 d1 => ED c tb n1 env fun n2 d2 => OD c r d1 d2 (R n2)) : ED c (tOp r ta tb) n env R := fun B H σ r Q q =>
  h B H σ r _ fun v H1 n1 d1 r1 e1 h1 k1 => k1 B H1 σ r1 _ fun u H2 n2 d2 r2 e2 h2 k2 => k2 B H2 v u r2.live (r1.dt e2 h1) h2 Q fun z H3 d s3 h3 k3 =>
    q z H3 n2 d (r2.same s3) ((e1.trans e2).trans (Ext0.same s3)) h3 k3
theorem ed_un {r : V → Hp → VK → Prop} (h : ED c ta n env fun n1 d1 => UD c r d1 (R n1)) : ED c (tUn r ta) n env R := fun B H σ r Q q =>
  h B H σ r _ fun v H1 n1 d1 r1 e1 h1 k1 => k1 B H1 v r1.live h1 Q fun z H3 d s3 h3 k3 => q z H3 n1 d (r1.same s3) (e1.trans (Ext0.same s3)) h3 k3
theorem ad_nil {R : Nat → List Dv → Prop} (k : R n []) : AD c tNil n env R := fun B H σ r Q q => q [] H n [] r (Ext0.refl _ _) .nil k
theorem ad_cons {tr : TA} {R : Nat → List Dv → Prop} (h : ED c ta n env fun n1 d => AD c tr n1 env fun n2 ds => R n2 (d :: ds)) : AD c (tCons ta tr) n env R := fun B H σ r Q q =>
  h B H σ r _ fun v H1 n1 d1 r1 e1 h1 k1 => k1 B H1 σ r1 _ fun us H2 n2 ds r2 e2 h2 k2 => q (v :: us) H2 n2 (d1 :: ds) r2 (e1.trans e2) (.cons (r1.dt e2 h1) h2) k2
theorem DtA.length {wd : Wd} {B : Addr → Prop} {K : PySem.W.Frag} {H : Hp} : ∀ {vs : List V} {ds : List Dv}, DtA wd B K H vs ds → vs.length = ds.length
  | _, _, .nil => rfl
  | _, _, .cons _ r => congrArg Nat.succ r.length
theorem DtA.get {wd : Wd} {B : Addr → Prop} {K : PySem.W.Frag} {H : Hp} : ∀ {vs : List V} {ds : List Dv} {i : Nat} {d : Dv}, DtA wd B K H vs ds → ds[i]? = some d → ∃ v, vs[i]? = some v ∧ Dt wd B K H v d
  | _, _, _, _, .nil, h => by simp at h
  | _, _, 0, _, .cons a _, h => by simp at h; subst h; exact ⟨_, rfl, a⟩
  | _, _, i + 1, _, .cons _ r, h => by
    obtain ⟨v, h1, h2⟩ := DtA.get r (i := i) (by simpa using h)
    exact ⟨v, by simpa using h1, h2⟩
theorem DtA.append {wd : Wd} {B : Addr → Prop} {K : PySem.W.Frag} {H : Hp} : ∀ {vs us : List V} {ds es : List Dv}, DtA wd B K H vs ds → DtA wd B K H us es → DtA wd B K H (vs ++ us) (ds ++ es)
  | _, _, _, _, .nil, h => h
  | _, _, _, _, .cons a r, h => .cons a (r.append h)
theorem qt_new {B : Addr → Prop} {K : PySem.W.Frag} {H : Hp} {p : Addr} {xs : List V} (l : ∀ a, B a → H a ≠ none) (h : H p = none) : QT B K (upd H p (.tup xs)) p xs := .inl ⟨fun z => l p z h, .inl upd_same⟩
theorem ql_new {B : Addr → Prop} {K : PySem.W.Frag} {H : Hp} {p : Addr} {xs : List V} (l : ∀ a, B a → H a ≠ none) (h : H p = none) : QL B K (upd H p (.lst xs)) p xs := ⟨fun z => l p z h, upd_same⟩
theorem dta_same {wd : Wd} {B : Addr → Prop} {K : PySem.W.Frag} {H H' : Hp} (s : Same H H') {vs : List V} {ds : List Dv} (h : DtA wd B K H vs ds) : DtA wd B K H' vs ds := DtA.move (fun a o e _ => s a o e) (fun _ z => .inl z) ds vs h
theorem dt_same {wd : Wd} {B : Addr → Prop} {K : PySem.W.Frag} {H H' : Hp} (s : Same H H') {v : V} {d : Dv} (h : Dt wd B K H v d) : Dt wd B K H' v d := Dt.move (fun a o e _ => s a o e) (fun _ z => .inl z) d v h
theorem dtk_same {wd : Wd} {B : Addr → Prop} {K : PySem.W.Frag} {H H' : Hp} (s : Same H H') {vs : List (Key × V)} {ds : List (Key × Dv)} (h : DtK wd B K H vs ds) : DtK wd B K H' vs ds := DtK.move (fun a o e _ => s a o e) (fun _ z => .inl z) ds vs h
theorem ed_tup {t : TA} (h : AD c t n env fun n1 ds => ds.length ≤ sizeLine ∧ R n1 (.tup ds)) : ED c (tTup t) n env R := fun B H σ r Q q =>
  h B H σ r _ fun vs H1 n1 ds r1 e1 h1 ⟨l, k1⟩ => ⟨by rw [h1.length]; exact l, fun p hp => by
    have s := same_new hp (.tup vs)
    exact q _ _ n1 _ (r1.same s) (e1.trans (Ext0.same s)) (.tup (qt_new r1.live hp) (dta_same s h1)) k1⟩
theorem ed_lst {t : TA} (h : AD c t n env fun n1 ds => ds.length ≤ sizeLine ∧ R n1 (.lst ds)) : ED c (tLst t) n env R := fun B H σ r Q q =>
  h B H σ r _ fun vs H1 n1 ds r1 e1 h1 ⟨l, k1⟩ => ⟨by rw [h1.length]; exact l, fun p hp => by
    have s := same_new hp (.lst vs)
    exact q _ _ n1 _ (r1.same s) (e1.trans (Ext0.same s)) (.lst (ql_new r1.live hp) (dta_same s h1)) k1⟩
theorem ed_callB {t : TA} {r : List V → Hp → VK → Prop} (h : AD c t n env fun n1 ds => CD c r ds (R n1)) : ED c (tCB r t) n env R := fun B H σ rl Q q =>
  h B H σ rl _ fun vs H1 n1 ds r1 e1 h1 k1 => k1 B H1 vs r1.live h1 Q fun z H3 d s3 h3 k3 => q z H3 n1 d (r1.same s3) (e1.trans (Ext0.same s3)) h3 k3

/-! ### tests -/
theorem td_test (h : ED c te n env fun n1 d => ∃ b, d = .bl b ∧ R n1 (.bl b)) {R' : Nat → Bool → Prop} (k : ∀ n b, R n (.bl b) → R' n b) : TD c (tTest te) n env R' := fun B H σ r Q q =>
  h B H σ r _ fun v H1 n1 d r1 e1 h1 ⟨b, e, k1⟩ => by
    subst e
    cases h1
    exact ⟨b, rfl, q b H1 n1 r1 e1 (k _ _ k1)⟩
/-- what a value is as a bool -/
def isBl (R : Nat → Bool → Prop) (n : Nat) : Dv → Prop
  | .bl b => R n b
  | _ => False
theorem td_tst {R : Nat → Bool → Prop} (h : ED c te n env fun n1 d => isBl R n1 d) : TD c (tTest te) n env R := fun B H σ r Q q =>
  h B H σ r _ fun v H1 n1 d r1 e1 h1 k1 => by
    cases d <;> try exact k1.elim
    cases h1
    exact ⟨_, rfl, q _ H1 n1 r1 e1 k1⟩
theorem td_b {R : Nat → Bool → Prop} (h : ED c te n env fun n1 d => isBl R n1 d) : TD c (tB te) n env R := td_tst h
theorem td_not {R : Nat → Bool → Prop} (h : TD c tt n env fun n1 b => R n1 (!b)) : TD c (tNot tt) n env R := fun B H σ r Q q => h B H σ r _ fun b H1 n1 r1 e1 k1 => q _ H1 n1 r1 e1 k1
theorem td_and {tu : TT} {R : Nat → Bool → Prop} (h : TD c tt n env fun n1 b => if b = true then TD c tu n1 env R else R n1 false) : TD c (tAnd tt tu) n env R := fun B H σ r Q q => h B H σ r _ fun b H1 n1 r1 e1 k1 => by
  cases b with
  | true => exact iteT ((show TD c tu n1 env R from k1) B H1 σ r1 Q fun b' H2 n2 r2 e2 k2 => q b' H2 n2 r2 (e1.trans e2) k2)
  | false => exact iteF (q false H1 n1 r1 e1 k1)
theorem td_or {tu : TT} {R : Nat → Bool → Prop} (h : TD c tt n env fun n1 b => if b = true then R n1 true else TD c tu n1 env R) : TD c (tOr tt tu) n env R := fun B H σ r Q q => h B H σ r _ fun b H1 n1 r1 e1 k1 => by
  cases b with
  | true => exact iteT (q true H1 n1 r1 e1 k1)
  | false => exact iteF ((show TD c tu n1 env R from k1) B H1 σ r1 Q fun b' H2 n2 r2 e2 k2 => q b' H2 n2 r2 (e1.trans e2) k2)
theorem td_yes {R : Nat → Bool → Prop} (k : R n true) : TD c tYes n env R := fun B H σ r Q q => q true H n r (Ext0.refl _ _) k
/-- the truth of a tree -/
def tru : Dv → Option Bool
  | .non => some false
  | .bl b => some b
  | .int i => some (i != 0)
  | .str x => if x.length ≤ sizeLine then some ((x.length : Int) != 0) else none
  | .tup ds => some (!ds.isEmpty)
  | .lst ds => some (!ds.isEmpty)
  | .dic es => some (!es.isEmpty)
  | _ => none
theorem DtA.empty {wd : Wd} {B : Addr → Prop} {K : PySem.W.Frag} {H : Hp} {vs : List V} {ds : List Dv} (h : DtA wd B K H vs ds) : vs.isEmpty = ds.isEmpty := by cases h <;> rfl
theorem td_tru {R : Nat → Bool → Prop} (h : ED c te n env fun n1 d => ∃ b, tru d = some b ∧ R n1 b) : TD c (fun σ H Q => te σ H fun x H' => ∃ k, TruV c.K x H' k ∧ Q k H') n env R := fun B H σ r Q q =>
  h B H σ r _ fun v H1 n1 d r1 e1 h1 ⟨b, e, k1⟩ => by
    refine ⟨b, ?_, q b H1 n1 r1 e1 k1⟩
    cases h1 with
    | non => cases e; rfl
    | bl b => cases e; rfl
    | int i => cases e; rfl
    | str x =>
      simp only [tru] at e
      split at e
      · cases e; exact ⟨‹_›, rfl⟩
      · cases e
    | tup h2 h3 => cases e; exact .inr (.inl ⟨_, h2.sq, by rw [h3.empty]⟩)
    | lst h2 h3 => cases e; exact .inl ⟨_, h2.sq, by rw [h3.empty]⟩
    | dic z h2 h3 => cases e; exact .inr (.inr ⟨_, h2, by cases h3 <;> rfl⟩)
    | ins _ _ _ => cases e
    | deck _ => cases e
    | scr _ => cases e
theorem ed_if (h : TD c tt n env fun n1 b => if b = true then ED c ta n1 env R else ED c tb n1 env R) : ED c (tIf tt ta tb) n env R := fun B H σ r Q q => h B H σ r _ fun b H1 n1 r1 e1 k1 => by
  cases b with
  | true => exact iteT ((show ED c ta n1 env R from k1) B H1 σ r1 Q fun v H2 n2 d r2 e2 => q v H2 n2 d r2 (e1.trans e2))
  | false => exact iteF ((show ED c tb n1 env R from k1) B H1 σ r1 Q fun v H2 n2 d r2 e2 => q v H2 n2 d r2 (e1.trans e2))
theorem ed_and (h : ED c ta n env fun n1 d => isBl (fun n1 b => if b = true then ED c tb n1 env R else R n1 (.bl false)) n1 d) : ED c (tAndV ta tb) n env R := fun B H σ r Q q =>
  h B H σ r _ fun v H1 n1 d r1 e1 h1 k1 => by
    cases d <;> try exact k1.elim
    rename_i b
    cases h1
    refine ⟨b, rfl, ?_⟩
    cases b with
    | true => exact iteT ((show ED c tb n1 env R from k1) B H1 σ r1 Q fun v H2 n2 d r2 e2 => q v H2 n2 d r2 (e1.trans e2))
    | false => exact iteF (q _ H1 n1 _ r1 e1 (.bl false) k1)
theorem ed_or (h : ED c ta n env fun n1 d => isBl (fun n1 b => if b = true then R n1 (.bl true) else ED c tb n1 env R) n1 d) : ED c (tOrV ta tb) n env R := fun B H σ r Q q =>
  h B H σ r _ fun v H1 n1 d r1 e1 h1 k1 => by
    cases d <;> try exact k1.elim
    rename_i b
    cases h1
    refine ⟨b, rfl, ?_⟩
    cases b with
    | true => exact iteT (q _ H1 n1 _ r1 e1 (.bl true) k1)
    | false => exact iteF ((show ED c tb n1 env R from k1) B H1 σ r1 Q fun v H2 n2 d r2 e2 => q v H2 n2 d r2 (e1.trans e2))
theorem ed_not (h : ED c ta n env fun n1 d => isBl (fun n1 b => R n1 (.bl (!b))) n1 d) : ED c (tNotV ta) n env R := fun B H σ r Q q =>
  h B H σ r _ fun v H1 n1 d r1 e1 h1 k1 => by
    cases d <;> try exact k1.elim
    rename_i b
    cases h1
    exact ⟨b, rfl, q _ H1 n1 _ r1 e1 (.bl _) k1⟩
/-- a is None -/
theorem ed_isN (h : ED c ta n env fun n1 d => R n1 (.bl (match d with | .non => true | _ => false))) : ED c (tIsN ta) n env R := fun B H σ r Q q =>
  h B H σ r _ fun v H1 n1 d r1 e1 h1 k1 => q _ H1 n1 _ r1 e1 (.bl _) (by cases h1 <;> simpa using k1)
theorem ed_notN (h : ED c ta n env fun n1 d => R n1 (.bl (match d with | .non => false | _ => true))) : ED c (tNotN ta) n env R := fun B H σ r Q q =>
  h B H σ r _ fun v H1 n1 d r1 e1 h1 k1 => q _ H1 n1 _ r1 e1 (.bl _) (by cases h1 <;> simpa using k1)
end

/-! ### statements -/
structure DN where
  nx : Nat → DL.Env → Prop
  rt : Nat → Dv → Prop
  bk : Nat → DL.Env → Prop := fun _ _ => False
  ct : Nat → DL.Env → Prop := fun _ _ => False
/-- from one state to a later one: what was not banned stays, what is banned anew was free -/
structure Step (B : Addr → Prop) (H : Hp) (B' : Addr → Prop) (H' : Hp) : Prop where
  keep : ∀ a o, H a = some o → ¬ B a → H' a = some o
  ban : ∀ a, B' a → B a ∨ H a = none
theorem Step.refl (B : Addr → Prop) (H : Hp) : Step B H B H := ⟨fun _ _ h _ => h, fun _ h => .inl h⟩
theorem Step.trans {B B1 B2 : Addr → Prop} {H H1 H2 : Hp} (a : Step B H B1 H1) (b : Step B1 H1 B2 H2) : Step B H B2 H2 where
  keep := fun x o h z => b.keep x o (a.keep x o h z) fun y => (a.ban x y).elim z (by rw [h]; exact nofun)
  ban := fun x h => by
    rcases b.ban x h with y | y
    · exact a.ban x y
    · by_cases z : B x
      · exact .inl z
      · match q : H x with
        | none => exact .inr rfl
        | some o => rw [a.keep x o q z] at y; cases y
theorem Step.ext {c : Cn} {B : Addr → Prop} {n : Nat} {H H' : Hp} {σ : L2.St} {env : DL.Env} (R : Rel c B n H σ env) (e : Ext0 c.wd H H') : Step B H B H' := ⟨R.keeps e, fun _ h => .inl h⟩
structure Lift (c : Cn) (B : Addr → Prop) (H : Hp) (N : DN) (D : Ends) : Prop where
  nx : ∀ B2 H2 σ2 n2 env2, Step B H B2 H2 → (∀ a, c.B a → B2 a) → Rel c B2 n2 H2 σ2 env2 → N.nx n2 env2 → D.nx σ2 H2
  bk : ∀ B2 H2 σ2 n2 env2, Step B H B2 H2 → (∀ a, c.B a → B2 a) → Rel c B2 n2 H2 σ2 env2 → N.bk n2 env2 → D.bk σ2 H2
  ct : ∀ B2 H2 σ2 n2 env2, Step B H B2 H2 → (∀ a, c.B a → B2 a) → Rel c B2 n2 H2 σ2 env2 → N.ct n2 env2 → D.ct σ2 H2
  rt : ∀ v H2 n2 d, WOk c.wd n2 H2 → Ext0 c.wd c.He H2 → Dt c.wd c.B c.K H2 v d → N.rt n2 d → D.rt v H2
def SD (c : Cn) (t : TS) (n : Nat) (env : DL.Env) (N : DN) : Prop := ∀ B H σ, (∀ a, c.B a → B a) → Rel c B n H σ env → ∀ D : Ends, Lift c B H N D → t D σ H

section
variable {c : Cn} {n : Nat} {env : DL.Env} {N : DN} {te : TE} {tt : TT} {t u : TS}
theorem Lift.later {B B1 : Addr → Prop} {H H1 : Hp} {D : Ends} (l : Lift c B H N D) (s : Step B H B1 H1) : Lift c B1 H1 N D where
  nx := fun B2 H2 σ2 n2 env2 a b r k => l.nx B2 H2 σ2 n2 env2 (s.trans a) b r k
  bk := fun B2 H2 σ2 n2 env2 a b r k => l.bk B2 H2 σ2 n2 env2 (s.trans a) b r k
  ct := fun B2 H2 σ2 n2 env2 a b r k => l.ct B2 H2 σ2 n2 env2 (s.trans a) b r k
  rt := l.rt
theorem sd_seq (h : SD c t n env { N with nx := fun n1 env1 => SD c u n1 env1 N }) : SD c (tSeq t u) n env N := fun B H σ b r D l =>
  h B H σ b r _ { nx := fun B2 H2 σ2 n2 env2 s b2 r2 k => k B2 H2 σ2 b2 r2 D (l.later s), bk := l.bk, ct := l.ct, rt := l.rt }
theorem sd_next (h : N.nx n env) : SD c tNext n env N := fun B H σ b r D l => l.nx B H σ n env (Step.refl B H) b r h
theorem sd_break (h : N.bk n env) : SD c tBreak n env N := fun B H σ b r D l => l.bk B H σ n env (Step.refl B H) b r h
theorem sd_cont (h : N.ct n env) : SD c tCont n env N := fun B H σ b r D l => l.ct B H σ n env (Step.refl B H) b r h
theorem sd_asg {i : Nat} (h : ED c te n env fun n1 d => N.nx n1 (env.set i (some (.fz d)))) : SD c (tAsg te (gName i)) n env N := fun B H σ b r D l =>
  h B H σ r _ fun v H1 n1 d r1 e1 h1 k => l.nx B H1 _ n1 _ (Step.ext r e1) b (r1.set i h1) k
theorem sd_ret (h : ED c te n env N.rt) : SD c (tRet te) n env N := fun B H σ b r D l =>
  h B H σ r _ fun v H1 n1 d r1 e1 h1 k => l.rt v H1 n1 d r1.wok r1.ent (Dt.move (fun _ _ e _ => e) (fun a z => .inl (b a z)) d v h1) k
theorem sd_retN (h : N.rt n .non) : SD c tRetN n env N := fun B H σ b r D l => l.rt .non H n .non r.wok r.ent .non h
theorem sd_drop (h : ED c te n env fun n1 _ => N.nx n1 env) : SD c (tDrop te) n env N := fun B H σ b r D l =>
  h B H σ r _ fun v H1 n1 d r1 e1 h1 k => l.nx B H1 σ n1 env (Step.ext r e1) b r1 k
theorem sd_if (h : TD c tt n env fun n1 b => if b = true then SD c t n1 env N else SD c u n1 env N) : SD c (tIfS tt t u) n env N := fun B H σ b r D l =>
  h B H σ r _ fun k H1 n1 r1 e1 h1 => by
    cases k with
    | true => exact iteT ((show SD c t n1 env N from h1) B H1 σ b r1 D (l.later (Step.ext r e1)))
    | false => exact iteF ((show SD c u n1 env N from h1) B H1 σ b r1 D (l.later (Step.ext r e1)))
theorem sd_mono {N' : DN} (h : SD c t n env N) (h1 : ∀ n e, N.nx n e → N'.nx n e) (h2 : ∀ n d, N.rt n d → N'.rt n d) (h3 : ∀ n e, N.bk n e → N'.bk n e) (h4 : ∀ n e, N.ct n e → N'.ct n e) : SD c t n env N' := fun B H σ b r D l =>
  h B H σ b r D ⟨fun B2 H2 σ2 n2 env2 s b2 r2 k => l.nx B2 H2 σ2 n2 env2 s b2 r2 (h1 _ _ k), fun B2 H2 σ2 n2 env2 s b2 r2 k => l.bk B2 H2 σ2 n2 env2 s b2 r2 (h3 _ _ k),
    fun B2 H2 σ2 n2 env2 s b2 r2 k => l.ct B2 H2 σ2 n2 env2 s b2 r2 (h4 _ _ k), fun v H2 n2 d a b e k => l.rt v H2 n2 d a b e (h2 _ _ k)⟩
/-- fewer draws are free than could be -/
theorem sd_less {m : Nat} (l : m ≤ n) (h : SD c t m env N) : SD c t n env N := fun B H σ b r => h B H σ b (r.less l)
/-- a name is forgotten -/
theorem Rel.drop {B : Addr → Prop} {H : Hp} {σ : L2.St} (R : Rel c B n H σ env) (i : Nat) : Rel c B n H σ (env.set i none) where
  len := by rw [List.length_set]; exact R.len
  wok := R.wok
  dk := R.dk
  live := R.live
  ent := R.ent
  fz := fun j d h => by
    by_cases q : i = j
    · subst q
      rw [List.getElem?_set] at h
      simp at h
    · rw [List.getElem?_set_ne q] at h
      exact R.fz j d h
  own := fun j d h => by
    by_cases q : i = j
    · subst q
      rw [List.getElem?_set] at h
      simp at h
    · rw [List.getElem?_set_ne q] at h
      exact R.own j d h
  inj := fun j k o u a hj hk => by
    have no : ∀ {j : Nat} {o : Ob}, (env.set i none)[j]? = some (some (.own o)) → env[j]? = some (some (.own o)) := fun {j o} h => by
      by_cases q : i = j
      · subst q
        rw [List.getElem?_set] at h
        simp at h
      · rwa [List.getElem?_set_ne q] at h
    exact R.inj j k o u a (no hj) (no hk)
theorem sd_drop1 (i : Nat) (h : SD c t n (env.set i none) N) : SD c t n env N := fun B H σ b r => h B H σ b (r.drop i)
end
end DL

set_option Elab.async false
set_option linter.all false
set_option maxRecDepth 100000
set_option maxHeartbeats 2000000
/-! D3: lists of a def's own, loops, comprehensions, calls, a def's promise over trees. -/
namespace DL
open PySem L2

section
variable {c : Cn} {n : Nat} {env : DL.Env} {N : DN} {te : TE} {tt : TT} {t u : TS}

/-! ### fresh lists -/
/-- an expression comes to a new list of trees -/
def FD (c : Cn) (t : TE) (n : Nat) (env : DL.Env) (R : Nat → List Dv → Prop) : Prop := ∀ B H σ, Rel c B n H σ env → ∀ Q : VK,
  (∀ p xs H' n' ds, Rel c B n' H' σ env → Ext0 c.wd H H' → H' p = none → DtA c.wd B c.K H' xs ds → R n' ds → Q (.ref p) (upd H' p (.lst xs))) → t σ H Q
theorem fd_lst {ta : TA} {R : Nat → List Dv → Prop} (h : AD c ta n env fun n1 ds => ds.length ≤ sizeLine ∧ R n1 ds) : FD c (tLst ta) n env R := fun B H σ r Q q =>
  h B H σ r _ fun vs H1 n1 ds r1 e1 h1 ⟨l, k1⟩ => ⟨by rw [h1.length]; exact l, fun p hp => q p vs H1 n1 ds r1 e1 hp h1 k1⟩
theorem ed_fd {R : Nat → Dv → Prop} (h : FD c te n env fun n1 ds => R n1 (.lst ds)) : ED c te n env R := fun B H σ r Q q =>
  h B H σ r Q fun p xs H1 n1 ds r1 e1 hp h1 k1 => by
    have s := same_new hp (.lst xs)
    exact q _ _ n1 _ (r1.same s) (e1.trans (Ext0.same s)) (.lst (ql_new r1.live hp) (dta_same s h1)) k1
/-- a new object becomes the def's own -/
theorem Rel.give {B : Addr → Prop} {H : Hp} {σ : L2.St} (R : Rel c B n H σ env) (i : Nat) {p : Addr} (hp : H p = none) (u : HO) (o : Ob) (ho : Own c.wd (fun a => B a ∨ a = p) c.K (upd H p u) p o) :
    Rel c (fun a => B a ∨ a = p) n (upd H p u) (σ.set i (some (.ref p))) (env.set i (some (.own o))) := by
  have s : Same H (upd H p u) := same_new hp u
  have hp' : ∀ a o, H a = some o → ¬ B a → upd H p u a = some o := fun a o h _ => s a o h
  have hb : ∀ a, (B a ∨ a = p) → B a ∨ H a = none := fun a h => h.imp id fun z => by rw [z]; exact hp
  have nd : ¬ Dk c.wd p := fun z => R.new hp (R.dk p z)
  have at_i : ∀ {x : Option Dx} {y : Dx}, (env.set i x)[i]? = some (some y) → i < env.length ∧ x = some y := fun {x y} h => by
    have l : i < env.length := by
      have := (List.getElem?_eq_some_iff.mp h).1
      rwa [List.length_set] at this
    rw [List.getElem?_set_self l] at h
    exact ⟨l, Option.some.inj h⟩
  have own_other : ∀ {j : Nat} {v : Ob} {a : Addr}, env[j]? = some (some (.own v)) → σ[j]? = some (some (.ref a)) → a ≠ p := fun {j v a} h1 h2 z => by
    obtain ⟨b, e, hb, _⟩ := R.own j v h1
    rw [e] at h2
    cases h2
    exact R.new hp (z ▸ hb)
  refine ⟨by rw [List.length_set, List.length_set, R.len], R.wok.same s, fun a h => .inl (R.dk a h), fun a h => ?_, fun a o h z => s a o (R.ent a o h z), fun j d h => ?_, fun j v h => ?_, fun j k v w a hj hk sj sk => ?_⟩
  · rcases h with h | rfl
    · match q : H a with
      | none => exact absurd q (R.live a h)
      | some o => rw [s a o q]; exact nofun
    · rw [upd_same]; exact nofun
  · by_cases q : i = j
    · subst q
      cases (at_i h).2
    · rw [List.getElem?_set_ne q] at h ⊢
      obtain ⟨v, e, r⟩ := R.fz j d h
      exact ⟨v, e, Dt.move hp' hb d v r⟩
  · by_cases q : i = j
    · subst q
      obtain ⟨l, e⟩ := at_i h
      cases e
      exact ⟨p, List.getElem?_set_self (by rw [R.len]; exact l), .inr rfl, nd, R.newHe hp, ho⟩
    · rw [List.getElem?_set_ne q] at h ⊢
      obtain ⟨a, e, b, nk, he, r⟩ := R.own j v h
      exact ⟨a, e, .inl b, nk, he, Own.move hp' hb (fun o z => s a o z) r⟩
  · by_cases q : i = j
    · subst q
      by_cases q' : i = k
      · exact q'
      · rw [List.getElem?_set_ne q'] at hk sk
        obtain ⟨l, _⟩ := at_i hj
        rw [List.getElem?_set_self (by rw [R.len]; exact l)] at sj
        cases sj
        exact absurd rfl (own_other hk sk)
    · by_cases q' : i = k
      · subst q'
        rw [List.getElem?_set_ne q] at hj sj
        obtain ⟨l, _⟩ := at_i hk
        rw [List.getElem?_set_self (by rw [R.len]; exact l)] at sk
        cases sk
        exact absurd rfl (own_other hj sj)
      · rw [List.getElem?_set_ne q] at hj sj
        rw [List.getElem?_set_ne q'] at hk sk
        exact R.inj j k v w a hj hk sj sk
theorem step_give {B : Addr → Prop} {H : Hp} {p : Addr} (hp : H p = none) (u : HO) : Step B H (fun a => B a ∨ a = p) (upd H p u) :=
  ⟨fun a o h _ => same_new hp u a o h, fun a h => h.imp id fun z => by rw [z]; exact hp⟩
theorem sd_own {i : Nat} (h : FD c te n env fun n1 ds => N.nx n1 (env.set i (some (.own (.lst ds))))) : SD c (tAsg te (gName i)) n env N := fun B H σ b r D l =>
  h B H σ r _ fun p xs H1 n1 ds r1 e1 hp h1 k => by
    refine l.nx _ _ _ n1 _ ((Step.ext r e1).trans (step_give hp _)) (fun a z => .inl (b a z)) (r1.give i hp (.lst xs) (.lst ds) ⟨xs, upd_same, ?_⟩) k
    exact DtA.move (fun a o h _ => same_new hp _ a o h) (fun a h => h.imp id fun z => by rw [z]; exact hp) ds xs h1
/-- an own object is turned -/
theorem Rel.turn {B : Addr → Prop} {H : Hp} {σ : L2.St} (R : Rel c B n H σ env) {i : Nat} {v : Ob} {a : Addr} (hi : env[i]? = some (some (.own v))) (ha : σ[i]? = some (some (.ref a))) (u : HO) (o : Ob) (ho : Own c.wd B c.K (upd H a u) a o) :
    Rel c B n (upd H a u) σ (env.set i (some (.own o))) ∧ Step B H B (upd H a u) := by
  obtain ⟨a', e, hb, nk, he, r0⟩ := R.own i v hi
  rw [ha] at e
  cases e
  have hp' : ∀ x o, H x = some o → ¬ B x → upd H a u x = some o := fun x o h z => by
    rw [upd_ne (show x ≠ a from fun q => z (by rw [q]; exact hb))]
    exact h
  have hb' : ∀ x, B x → B x ∨ H x = none := fun _ h => .inl h
  have li : i < env.length := (List.getElem?_eq_some_iff.mp hi).1
  refine ⟨⟨by rw [List.length_set]; exact R.len, fun p e => ?_, R.dk, fun x h => ?_, fun x o h z => ?_, fun j d h => ?_, fun j w h => ?_, fun j k w z b hj hk sj sk => ?_⟩, ⟨hp', hb'⟩⟩
  · obtain ⟨ne, m, k, cs, h1, h2, r⟩ := R.wok p e
    refine ⟨ne, m, k, cs, ?_, ?_, r⟩
    · rw [upd_ne (fun q => nk ⟨p, e, .inl q.symm⟩)]; exact h1
    · rw [upd_ne (fun q => nk ⟨p, e, .inr q.symm⟩)]; exact h2
  · by_cases q : x = a
    · subst q; rw [upd_same]; exact nofun
    · rw [upd_ne q]; exact R.live x h
  · have q : x ≠ a := fun q => by rw [q, he] at h; cases h
    rw [upd_ne q]
    exact R.ent x o h z
  · by_cases q : i = j
    · subst q
      rw [List.getElem?_set_self li] at h
      cases h
    · rw [List.getElem?_set_ne q] at h
      obtain ⟨w, e, r⟩ := R.fz j d h
      exact ⟨w, e, Dt.move hp' hb' d w r⟩
  · by_cases q : i = j
    · subst q
      rw [List.getElem?_set_self li] at h
      cases h
      exact ⟨a, ha, hb, nk, he, ho⟩
    · rw [List.getElem?_set_ne q] at h
      obtain ⟨b, e, bb, bn, be, r⟩ := R.own j w h
      have nab : b ≠ a := fun z => q (R.inj i j v w a hi h ha (z ▸ e))
      exact ⟨b, e, bb, bn, be, Own.move hp' hb' (fun o z => by rw [upd_ne nab]; exact z) r⟩
  · have back : ∀ {j : Nat} {w : Ob}, (env.set i (some (.own o)))[j]? = some (some (.own w)) → ∃ w', env[j]? = some (some (.own w')) := fun {j w} h => by
      by_cases q : i = j
      · subst q; exact ⟨v, hi⟩
      · rw [List.getElem?_set_ne q] at h; exact ⟨w, h⟩
    obtain ⟨w', hj'⟩ := back hj
    obtain ⟨z', hk'⟩ := back hk
    exact R.inj j k w' z' b hj' hk' sj sk
/-- x.append(e) -/
theorem sd_append {i : Nat} {ds : List Dv} (hi : env[i]? = some (some (.own (.lst ds)))) (h : ED c te n env fun n1 d => ds.length < sizeLine ∧ N.nx n1 (env.set i (some (.own (.lst (ds ++ [d])))))) :
    SD c (tDrop (tBM c.K "list" rAppend (tVar i) (tCons te tNil))) n env N := fun B H σ b r D l => by
  obtain ⟨a, e, hb, nk, he, xs, hx, hd⟩ := r.own i _ hi
  refine ⟨_, e, .inl ⟨rfl, xs, .inl (.inl hx)⟩, ?_⟩
  refine h B H σ r _ fun v H1 n1 d r1 e1 h1 ⟨sz, k⟩ => ?_
  obtain ⟨a', e', hb', nk', he', xs', hx', hd'⟩ := r1.own i _ hi
  rw [e] at e'
  cases e'
  refine ⟨a, xs', v, rfl, rfl, hx', by rw [hd'.length]; exact sz, ?_⟩
  obtain ⟨r2, s2⟩ := r1.turn hi e (.lst (xs' ++ [v])) (.lst (ds ++ [d])) ⟨_, upd_same, DtA.move (fun x o q z => by rw [upd_ne (show x ≠ a from fun y => z (by rw [y]; exact hb))]; exact q) (fun _ z => .inl z) _ _ (hd'.append (.cons h1 .nil))⟩
  exact l.nx B _ σ n1 _ ((Step.ext r e1).trans s2) b r2 k
/-- an own list is a tree from now on -/
theorem Rel.freeze {B : Addr → Prop} {H : Hp} {σ : L2.St} (R : Rel c B n H σ env) {i : Nat} {ds : List Dv} (hi : env[i]? = some (some (.own (.lst ds)))) : ∃ B', (∀ a, B' a → B a) ∧ (∀ a, B a → c.He a ≠ none → B' a) ∧ Rel c B' n H σ (env.set i (some (.fz (.lst ds)))) := by
  obtain ⟨a, e, hb, nk, he, xs, hx, hd⟩ := R.own i _ hi
  have li : i < env.length := (List.getElem?_eq_some_iff.mp hi).1
  have hp' : ∀ x o, H x = some o → ¬ B x → H x = some o := fun _ _ h _ => h
  have hb' : ∀ x, (B x ∧ x ≠ a) → B x ∨ H x = none := fun _ h => .inl h.1
  refine ⟨fun x => B x ∧ x ≠ a, fun _ h => h.1, fun x h z => ⟨h, fun q => z (q ▸ he)⟩, ⟨by rw [List.length_set]; exact R.len, R.wok, fun x h => ⟨R.dk x h, fun q => nk (q ▸ h)⟩, fun x h => R.live x h.1, R.ent, fun j d h => ?_, fun j w h => ?_, fun j k w z b hj hk sj sk => ?_⟩⟩
  · by_cases q : i = j
    · subst q
      rw [List.getElem?_set_self li] at h
      cases h
      exact ⟨.ref a, e, .lst ⟨fun z => z.2 rfl, hx⟩ (DtA.move hp' hb' ds xs hd)⟩
    · rw [List.getElem?_set_ne q] at h
      obtain ⟨w, e, r⟩ := R.fz j d h
      exact ⟨w, e, Dt.move hp' hb' d w r⟩
  · by_cases q : i = j
    · subst q
      rw [List.getElem?_set_self li] at h
      cases h
    · rw [List.getElem?_set_ne q] at h
      obtain ⟨b, eb, bb, bn, be, r⟩ := R.own j w h
      have nab : b ≠ a := fun z => q (R.inj i j _ w a hi h e (z ▸ eb))
      exact ⟨b, eb, ⟨bb, nab⟩, bn, be, Own.move hp' hb' (fun _ z => z) r⟩
  · have back : ∀ {j : Nat} {w : Ob}, (env.set i (some (.fz (.lst ds))))[j]? = some (some (.own w)) → env[j]? = some (some (.own w)) := fun {j w} h => by
      by_cases q : i = j
      · subst q; rw [List.getElem?_set_self li] at h; cases h
      · rwa [List.getElem?_set_ne q] at h
    exact R.inj j k w z b (back hj) (back hk) sj sk
theorem sd_freeze (i : Nat) {ds : List Dv} (hi : env[i]? = some (some (.own (.lst ds)))) (h : SD c t n (env.set i (some (.fz (.lst ds)))) N) : SD c t n env N := fun B H σ b r D l => by
  obtain ⟨B', h1, h2, r'⟩ := r.freeze hi
  have b' : ∀ a, c.B a → B' a := fun a z => h2 a (b a z) (c.lv a z)
  exact h B' H σ b' r' D (l.later ⟨fun _ _ e _ => e, fun a z => .inl (h1 a z)⟩)
end
end DL

set_option Elab.async false
set_option linter.all false
set_option maxRecDepth 100000
set_option maxHeartbeats 2000000
/-! D4: what is walked, loops, comprehensions, targets, calls, defs. -/
namespace DL
open PySem PySem.Spec L2

section
variable {c : Cn} {n : Nat} {env : DL.Env} {N : DN} {te : TE} {tt : TT} {t u tb : TS}

/-! ### what is walked -/
def Walks (c : Cn) (B : Addr → Prop) (J : It) (H0 : Hp) (items : List Dv) : Prop := ∀ B2 H, Step B H0 B2 H → (∀ a, B2 a → H a ≠ none) →
  (∀ (i : Nat) (d : Dv), items[i]? = some d → J.go i H ∧ ∀ x H', J.yld i H x H' → Same H H' ∧ Dt c.wd B2 c.K H' x d) ∧ ∀ i : Nat, items.length ≤ i → J.stop i H
def WD (c : Cn) (wi : TI) (n : Nat) (env : DL.Env) (R : Nat → List Dv → Prop) : Prop := ∀ B H σ, Rel c B n H σ env → ∀ k : It → Hp → Prop,
  (∀ J H' n' items, Rel c B n' H' σ env → Ext0 c.wd H H' → Walks c B J H' items → R n' items → k J H') → wi σ H k
theorem ql_step {B B2 : Addr → Prop} {K : PySem.W.Frag} {H H2 : Hp} {a : Addr} {xs : List V} (s : Step B H B2 H2) (h : QL B K H a xs) : QL B2 K H2 a xs := ⟨fun x => (s.ban _ x).elim h.1 (by rw [h.2]; exact nofun), s.keep _ _ h.2 h.1⟩
theorem qt_step {B B2 : Addr → Prop} {K : PySem.W.Frag} {H H2 : Hp} {a : Addr} {xs : List V} (s : Step B H B2 H2) (h : QT B K H a xs) : QT B2 K H2 a xs := h.imp (fun ⟨z, y⟩ => ⟨fun x => (s.ban _ x).elim z (rd_some y), rd_move s.keep z y⟩) id
/-- a list -/
theorem wd_list {R : Nat → List Dv → Prop} (h : ED c te n env fun n1 d => ∃ ds, d = .lst ds ∧ R n1 ds) : WD c (iList c.K te) n env R := fun B H σ r k q =>
  h B H σ r _ fun v H1 n1 d r1 e1 h1 ⟨ds, e, k1⟩ => by
    subst e
    cases h1 with
    | @lst a xs _ hq hd =>
      refine ⟨a, rfl, ⟨xs, hq.sq⟩, q _ H1 n1 ds r1 e1 (fun B2 H2 s lv => ⟨fun i d hi => ?_, fun i hi => ?_⟩) k1⟩
      · obtain ⟨x, hx, hxd⟩ := hd.get hi
        have hs : SqL c.K H2 a xs := (ql_step s hq).sq
        refine ⟨⟨xs, x, hs, hx⟩, fun y H' hy => ?_⟩
        obtain ⟨e, hy⟩ := hy
        subst e
        have := hy xs hs
        rw [hx] at this
        cases this
        exact ⟨Same.refl _, Dt.move s.keep s.ban d x hxd⟩
      · exact ⟨xs, (ql_step s hq).sq, by rw [hd.length]; exact hi⟩
/-- a tuple -/
theorem wd_tup {R : Nat → List Dv → Prop} (h : ED c te n env fun n1 d => ∃ ds, d = .tup ds ∧ R n1 ds) : WD c (iTup c.K te) n env R := fun B H σ r k q =>
  h B H σ r _ fun v H1 n1 d r1 e1 h1 ⟨ds, e, k1⟩ => by
    subst e
    cases h1 with
    | @tup a xs _ hq hd =>
      refine ⟨a, rfl, ⟨xs, hq.sq⟩, q _ H1 n1 ds r1 e1 (fun B2 H2 s lv => ⟨fun i d hi => ?_, fun i hi => ?_⟩) k1⟩
      · obtain ⟨x, hx, hxd⟩ := hd.get hi
        have hs : SqT c.K H2 a xs := (qt_step s hq).sq
        refine ⟨⟨xs, x, hs, hx⟩, fun y H' hy => ?_⟩
        obtain ⟨e, hy⟩ := hy
        subst e
        have := hy xs hs
        rw [hx] at this
        cases this
        exact ⟨Same.refl _, Dt.move s.keep s.ban d x hxd⟩
      · exact ⟨xs, (qt_step s hq).sq, by rw [hd.length]; exact hi⟩
/-- the signs of a text, each a text -/
def signs (x : Str) : List Dv := x.cps.toList.map fun k => .str ⟨#[k]⟩
theorem wd_str {R : Nat → List Dv → Prop} (h : ED c te n env fun n1 d => ∃ x, d = .str x ∧ R n1 (signs x)) : WD c (iStr te) n env R := fun B H σ r k q =>
  h B H σ r _ fun v H1 n1 d r1 e1 h1 ⟨x, e, k1⟩ => by
    subst e
    cases h1
    refine ⟨x, rfl, q _ H1 n1 _ r1 e1 (fun B2 H2 s lv => ⟨fun i d hi => ?_, fun i hi => ?_⟩) k1⟩
    · unfold signs at hi
      rw [List.getElem?_map] at hi
      have hi' : (x.cps[i]?).map (fun k => Dv.str ⟨#[k]⟩) = some d := by rw [← hi]; simp
      cases q : x.cps[i]? with
      | none => rw [q] at hi'; cases hi'
      | some k =>
        rw [q] at hi'
        cases hi'
        refine ⟨(Array.getElem?_eq_some_iff.mp q).1, fun y H' hy => ?_⟩
        obtain ⟨e, k', h1, h2⟩ := hy
        subst e
        rw [q] at h1
        cases h1
        subst h2
        exact ⟨Same.refl _, .str _⟩
    · show x.cps.size ≤ i
      unfold signs at hi
      simpa using hi
/-- lo, lo + 1, .. -/
def rints (lo : Int) (k : Nat) : List Dv := (List.range k).map fun (i : Nat) => .int (lo + (i : Int))
theorem rints_get {lo : Int} {k i : Nat} {d : Dv} (h : (rints lo k)[i]? = some d) : i < k ∧ d = .int (lo + (i : Int)) := by
  unfold rints at h
  rw [List.getElem?_map] at h
  by_cases q : i < k
  · rw [List.getElem?_range q] at h
    cases h
    exact ⟨q, rfl⟩
  · rw [List.getElem?_eq_none (by simpa using q)] at h
    cases h
theorem walks_range {B : Addr → Prop} {H : Hp} {lo : Int} {k : Nat} : Walks c B (Itr lo k) H (rints lo k) := fun B2 H2 s lv => ⟨fun i d hi => by
    obtain ⟨h1, h2⟩ := rints_get hi
    subst h2
    refine ⟨h1, fun x H' hx => ?_⟩
    obtain ⟨e, hx⟩ := hx
    subst e hx
    exact ⟨Same.refl _, .int _⟩, fun i hi => by
    show k ≤ i
    unfold rints at hi
    simpa using hi⟩
theorem wd_range1 {ta : TA} {R : Nat → List Dv → Prop} (h : AD c ta n env fun n1 ds => ∃ j : Int, ds = [.int j] ∧ -(2 ^ 62) ≤ j ∧ j < 2 ^ 62 ∧ R n1 (rints 0 j.toNat)) : WD c (iRng1 ta) n env R := fun B H σ r k q =>
  h B H σ r _ fun v H1 n1 d r1 e1 h1 ⟨j, e, l1, l2, k1⟩ => by
    subst e
    cases h1 with
    | cons a b =>
      cases a
      cases b
      exact ⟨j, rfl, l1, l2, q _ H1 n1 _ r1 e1 walks_range k1⟩
theorem wd_range2 {ta : TA} {R : Nat → List Dv → Prop} (h : AD c ta n env fun n1 ds => ∃ i j : Int, ds = [.int i, .int j] ∧ (-(2 ^ 62) ≤ i ∧ i < 2 ^ 62 ∧ -(2 ^ 62) ≤ j ∧ j < 2 ^ 62) ∧ R n1 (rints i (j - i).toNat)) : WD c (iRng2 ta) n env R := fun B H σ r k q =>
  h B H σ r _ fun v H1 n1 d r1 e1 h1 ⟨i, j, e, l1, k1⟩ => by
    subst e
    cases h1 with
    | cons a b =>
      cases a
      cases b with
      | cons a b =>
        cases a
        cases b
        exact ⟨i, j, rfl, l1, q _ H1 n1 _ r1 e1 walks_range k1⟩
/-- enumerate(list) -/
def nums (ds : List Dv) : List Dv := ds.zipIdx.map fun p => .tup [.int (p.2 : Nat), p.1]
theorem wd_enum {ta : TA} {R : Nat → List Dv → Prop} (h : AD c ta n env fun n1 es => ∃ ds, es = [.lst ds] ∧ R n1 (nums ds)) : WD c (iEnum c.K ta) n env R := fun B H σ r k q =>
  h B H σ r _ fun v H1 n1 d r1 e1 h1 ⟨ds, e, k1⟩ => by
    subst e
    cases h1 with
    | cons a b =>
      cases b
      cases a with
      | @lst a xs _ hq hd =>
        refine ⟨a, xs, rfl, hq.sq, q _ H1 n1 _ r1 e1 (fun B2 H2 s lv => ⟨fun i d hi => ?_, fun i hi => ?_⟩) k1⟩
        · unfold nums at hi
          rw [List.getElem?_map, List.getElem?_zipIdx] at hi
          cases q : ds[i]? with
          | none => rw [q] at hi; cases hi
          | some e =>
            rw [q] at hi
            obtain ⟨x, hx, hxd⟩ := hd.get q
            have hs : SqL c.K H2 a xs := (ql_step s hq).sq
            refine ⟨⟨xs, x, hs, hx⟩, fun y H' hy => ?_⟩
            obtain ⟨T, z, e1, e2, e3, e4⟩ := hy
            have := e4 xs hs
            rw [hx] at this
            cases this
            subst e1 e3
            have sm := same_new e2 (.tup [.int (i : Nat), x])
            have hd' : d = .tup [.int (i : Nat), e] := by simpa using hi.symm
            subst hd'
            exact ⟨sm, .tup (qt_new lv e2) (.cons (.int _) (.cons (dt_same sm (Dt.move s.keep s.ban e x hxd)) .nil))⟩
        · refine ⟨xs, (ql_step s hq).sq, ?_⟩
          unfold nums at hi
          rw [List.length_map, List.length_zipIdx] at hi
          rw [hd.length]; exact hi

/-! ### targets -/
/-- a target takes a tree -/
def GD (c : Cn) (g : TG) (vs : List Nat) (d : Dv) (env : DL.Env) (R : DL.Env → Prop) : Prop := ∀ B n H σ v, Rel c B n H σ env → Dt c.wd B c.K H v d → ∀ Q : L2.St → Hp → Prop,
  (∀ σ2 env2, Rel c B n H σ2 env2 → wipe σ2 vs = wipe σ vs → R env2 → Q σ2 H) → g v σ H Q
def GDs (c : Cn) (g : TGs) (vs : List Nat) (ds : List Dv) (env : DL.Env) (R : DL.Env → Prop) : Prop := ∀ B n H σ us, Rel c B n H σ env → DtA c.wd B c.K H us ds → ∀ Q : L2.St → Hp → Prop,
  (∀ σ2 env2, Rel c B n H σ2 env2 → wipe σ2 vs = wipe σ vs → R env2 → Q σ2 H) → g us σ H Q
theorem wipe_get (σ : L2.St) : ∀ (vs : List Nat) (j : Nat), (wipe σ vs)[j]? = if j ∈ vs then (if j < σ.length then some none else none) else σ[j]?
  | [], j => by simp [wipe]
  | v :: vs, j => by
    show ((wipe σ vs).set v none)[j]? = _
    rw [List.getElem?_set]
    by_cases q : v = j
    · subst q
      simp [wipe_length]
    · rw [if_neg q, wipe_get σ vs j]
      have q' : ¬ j = v := fun z => q z.symm
      simp [q']
theorem wipe_set {σ : L2.St} {i : Nat} {x : Option V} {vs : List Nat} (h : i ∈ vs) : wipe (σ.set i x) vs = wipe σ vs := by
  apply List.ext_getElem?
  intro j
  rw [wipe_get, wipe_get, List.length_set]
  by_cases q : j ∈ vs
  · rw [if_pos q, if_pos q]
  · rw [if_neg q, if_neg q, List.getElem?_set_ne (show i ≠ j from fun z => q (by rw [← z]; exact h))]
theorem wipe_wipe {σ : L2.St} {vs : List Nat} : wipe (wipe σ vs) vs = wipe σ vs := by
  apply List.ext_getElem?
  intro j
  rw [wipe_get, wipe_length]
  by_cases q : j ∈ vs
  · rw [if_pos q, wipe_get, if_pos q]
  · rw [if_neg q]
theorem gd_name {i : Nat} {vs : List Nat} {d : Dv} {R : DL.Env → Prop} (hi : i ∈ vs) (k : R (env.set i (some (.fz d)))) : GD c (gName i) vs d env R := fun B n H σ v r h Q q => q _ _ (r.set i h) (wipe_set hi) k
theorem gds_nil {vs : List Nat} {R : DL.Env → Prop} (k : R env) : GDs c gNil vs [] env R := fun B n H σ us r h Q q => by
  cases h
  exact ⟨rfl, q σ env r rfl k⟩
theorem gds_cons {g : TG} {gs : TGs} {vs : List Nat} {d : Dv} {ds : List Dv} {R : DL.Env → Prop} (h : GD c g vs d env fun env1 => GDs c gs vs ds env1 R) : GDs c (gCons g gs) vs (d :: ds) env R := fun B n H σ us r hd Q q => by
  cases hd with
  | cons a b =>
    refine ⟨_, _, rfl, h B n H σ _ r a _ fun σ2 env2 r2 w2 k2 => k2 B n H σ2 _ r2 b Q fun σ3 env3 r3 w3 k3 => q σ3 env3 r3 (w3.trans w2) k3⟩
theorem gd_tup {k : Nat} {gs : TGs} {vs : List Nat} {ds : List Dv} {R : DL.Env → Prop} (hl : ds.length = k) (h : GDs c gs vs ds env R) : GD c (gTup c.K k gs) vs (.tup ds) env R := fun B n H σ v r hd Q q => by
  cases hd with
  | @tup a xs _ hq hx => exact ⟨a, xs, rfl, hq.sq, by rw [hx.length]; exact hl, h B n H σ xs r hx Q q⟩
theorem gd_unl {k : Nat} {gs : TGs} {vs : List Nat} {ds : List Dv} {R : DL.Env → Prop} (hl : ds.length = k) (h : GDs c gs vs ds env R) : GD c (fun v σ H Q => ∃ a xs, v = .ref a ∧ SqL c.K H a xs ∧ xs.length = k ∧ gs xs σ H Q) vs (.lst ds) env R := fun B n H σ v r hd Q q => by
  cases hd with
  | @lst a xs _ hq hx => exact ⟨a, xs, rfl, hq.sq, by rw [hx.length]; exact hl, h B n H σ xs r hx Q q⟩
theorem sd_asgG {g : TG} {vs : List Nat} (h : ED c te n env fun n1 d => GD c g vs d env (N.nx n1)) : SD c (tAsg te g) n env N := fun B H σ b r D l =>
  h B H σ r _ fun v H1 n1 d r1 e1 h1 k => k B n1 H1 σ v r1 h1 _ fun σ2 env2 r2 _ k2 => l.nx B H1 σ2 n1 env2 (Step.ext r e1) b r2 k2

/-! ### for -/
theorem sd_for {wi : TI} {g : TG} {vs : List Nat} (h : WD c wi n env fun n0 items => ∃ J : Nat → Nat → DL.Env → Prop, J 0 n0 env ∧
      (∀ i n1 env1 d, items[i]? = some d → J i n1 env1 → GD c g vs d env1 fun env2 => SD c tb n1 env2 { nx := J (i + 1), rt := N.rt, bk := N.nx, ct := J (i + 1) }) ∧ ∀ n1 env1, J items.length n1 env1 → N.nx n1 env1) :
    SD c (tFor wi g tb) n env N := fun B H σ b r D l => by
  refine h B H σ r _ fun J H1 n1 items r1 e1 wk ⟨I, i0, step, fin⟩ => ?_
  have s1 := Step.ext r e1
  refine ⟨fun i m σ2 H2 => m = items.length - i ∧ i ≤ items.length ∧ ∃ B2 n2 env2, Step B H1 B2 H2 ∧ (∀ a, c.B a → B2 a) ∧ Rel c B2 n2 H2 σ2 env2 ∧ I i n2 env2, ⟨items.length, by simp, Nat.zero_le _, B, n1, env, Step.refl B H1, b, r1, i0⟩, ?_⟩
  rintro i m σ2 H2 ⟨rfl, hi, B2, n2, env2, s2, b2, r2, k2⟩
  obtain ⟨w1, w2⟩ := wk B2 H2 s2 r2.live
  by_cases hlt : i < items.length
  · refine .inr ⟨(w1 i items[i] (by simp [hlt])).1, fun σ3 H3 => ∃ B3 n3 env3, Step B H1 B3 H3 ∧ (∀ a, c.B a → B3 a) ∧ Rel c B3 n3 H3 σ3 env3 ∧ I (i + 1) n3 env3, fun σ3 H3 ⟨B3, n3, env3, s3, b3, r3, k3⟩ => ⟨items.length - (i + 1), by omega, rfl, hlt, B3, n3, env3, s3, b3, r3, k3⟩, fun x H' hy => ?_⟩
    obtain ⟨sm, hx⟩ := (w1 i items[i] (by simp [hlt])).2 x H' hy
    have r2' := r2.same sm
    have s2' : Step B H1 B2 H' := s2.trans ⟨fun a o q _ => sm a o q, fun _ z => .inl z⟩
    refine step i n2 env2 items[i] (by simp [hlt]) k2 B2 n2 H' σ2 x r2' hx _ fun σ3 env3 r3 _ k3 => ?_
    refine k3 B2 H' σ3 b2 r3 _ ⟨fun B4 H4 σ4 n4 env4 s4 b4 r4 k4 => ⟨B4, n4, env4, s2'.trans s4, b4, r4, k4⟩, fun B4 H4 σ4 n4 env4 s4 b4 r4 k4 => l.nx B4 H4 σ4 n4 env4 ((s1.trans s2').trans s4) b4 r4 k4,
      fun B4 H4 σ4 n4 env4 s4 b4 r4 k4 => ⟨B4, n4, env4, s2'.trans s4, b4, r4, k4⟩, l.rt⟩
  · obtain rfl : i = items.length := by omega
    exact .inl ⟨w2 _ (Nat.le_refl _), l.nx B2 H2 σ2 n2 env2 (s1.trans s2) b2 r2 (fin n2 env2 k2)⟩

/-! ### comprehensions -/
def wipeD (env : DL.Env) : List Nat → DL.Env
  | [] => env
  | v :: vs => (wipeD env vs).set v none
theorem Rel.wipe1 {B : Addr → Prop} {H : Hp} {σ : L2.St} (R : Rel c B n H σ env) (i : Nat) : Rel c B n H (σ.set i none) (env.set i none) where
  len := by rw [List.length_set, List.length_set]; exact R.len
  wok := R.wok
  dk := R.dk
  live := R.live
  ent := R.ent
  fz := fun j d h => by
    by_cases q : i = j
    · subst q
      rw [List.getElem?_set] at h
      simp at h
    · rw [List.getElem?_set_ne q] at h ⊢
      exact R.fz j d h
  own := fun j d h => by
    by_cases q : i = j
    · subst q
      rw [List.getElem?_set] at h
      simp at h
    · rw [List.getElem?_set_ne q] at h ⊢
      exact R.own j d h
  inj := fun j k o u a hj hk sj sk => by
    have no : ∀ {j : Nat} {o : Ob}, (env.set i none)[j]? = some (some (.own o)) → i ≠ j := fun {j o} h q => by
      subst q
      rw [List.getElem?_set] at h
      simp at h
    have nj := no hj
    have nk := no hk
    rw [List.getElem?_set_ne nj] at hj sj
    rw [List.getElem?_set_ne nk] at hk sk
    exact R.inj j k o u a hj hk sj sk
theorem Rel.wipes {B : Addr → Prop} {H : Hp} {σ : L2.St} (R : Rel c B n H σ env) : ∀ vs : List Nat, Rel c B n H (wipe σ vs) (wipeD env vs)
  | [] => R
  | v :: vs => (R.wipes vs).wipe1 v
/-- a ban more, of something that was free -/
theorem Rel.more {B : Addr → Prop} {H : Hp} {σ : L2.St} (R : Rel c B n H σ env) {p : Addr} (hp : H p = none) (u : HO) : Rel c (fun a => B a ∨ a = p) n (upd H p u) σ env := by
  have s : Same H (upd H p u) := same_new hp u
  have hp' : ∀ a o, H a = some o → ¬ B a → upd H p u a = some o := fun a o h _ => s a o h
  have hb : ∀ a, (B a ∨ a = p) → B a ∨ H a = none := fun a h => h.imp id fun z => by rw [z]; exact hp
  refine ⟨R.len, R.wok.same s, fun a h => .inl (R.dk a h), fun a h => ?_, fun a o h z => s a o (R.ent a o h z), fun j d h => ?_, fun j v h => ?_, R.inj⟩
  · rcases h with h | rfl
    · match q : H a with
      | none => exact absurd q (R.live a h)
      | some o => rw [s a o q]; exact nofun
    · rw [upd_same]; exact nofun
  · obtain ⟨v, e, r⟩ := R.fz j d h
    exact ⟨v, e, Dt.move hp' hb d v r⟩
  · obtain ⟨a, e, b, nk, he, r⟩ := R.own j v h
    exact ⟨a, e, .inl b, nk, he, Own.move hp' hb (fun o z => s a o z) r⟩
/-- the banned thing is turned -/
theorem Rel.turnP {B : Addr → Prop} {H : Hp} {σ : L2.St} {p : Addr} (R : Rel c B n H σ env) (hb : B p) (nd : ¬ Dk c.wd p) (he : c.He p = none) (ho : ∀ (i : Nat) (o : Ob), env[i]? = some (some (.own o)) → σ[i]? ≠ some (some (.ref p))) (u : HO) : Rel c B n (upd H p u) σ env := by
  have hp' : ∀ x o, H x = some o → ¬ B x → upd H p u x = some o := fun x o h z => by
    rw [upd_ne (show x ≠ p from fun q => z (by rw [q]; exact hb))]
    exact h
  refine ⟨R.len, fun q e => ?_, R.dk, fun x h => ?_, fun x o h z => ?_, fun j d h => ?_, fun j w h => ?_, R.inj⟩
  · obtain ⟨ne, m, k, cs, h1, h2, r⟩ := R.wok q e
    refine ⟨ne, m, k, cs, ?_, ?_, r⟩
    · rw [upd_ne (show q.dk ≠ p from fun z => nd ⟨q, e, .inl z.symm⟩)]; exact h1
    · rw [upd_ne (show q.cl ≠ p from fun z => nd ⟨q, e, .inr z.symm⟩)]; exact h2
  · by_cases q : x = p
    · subst q; rw [upd_same]; exact nofun
    · rw [upd_ne q]; exact R.live x h
  · rw [upd_ne (show x ≠ p from fun q => by rw [q, he] at h; cases h)]
    exact R.ent x o h z
  · obtain ⟨w, e, r⟩ := R.fz j d h
    exact ⟨w, e, Dt.move hp' (fun _ z => .inl z) d w r⟩
  · obtain ⟨b, e, bb, bn, be, r⟩ := R.own j w h
    have nab : b ≠ p := fun z => ho j w h (z ▸ e)
    exact ⟨b, e, bb, bn, be, Own.move hp' (fun _ z => .inl z) (fun o z => by rw [upd_ne nab]; exact z) r⟩
/-- the ban of something that no local holds ends -/
theorem Rel.fewer {B B' : Addr → Prop} {H : Hp} {σ : L2.St} (R : Rel c B n H σ env) (h1 : ∀ a, B' a → B a) (h2 : ∀ a, Dk c.wd a → B' a) (h3 : ∀ (i : Nat) (o : Ob) (a : Addr), env[i]? = some (some (.own o)) → σ[i]? = some (some (.ref a)) → B' a) : Rel c B' n H σ env :=
  ⟨R.len, R.wok, h2, fun a h => R.live a (h1 a h), R.ent, fun j d h => let ⟨v, e, r⟩ := R.fz j d h; ⟨v, e, Dt.move (fun _ _ e _ => e) (fun a z => .inl (h1 a z)) d v r⟩,
    fun j o h => let ⟨a, e, b, nk, he, r⟩ := R.own j o h; ⟨a, e, h3 j o a h e, nk, he, Own.move (fun _ _ e _ => e) (fun a z => .inl (h1 a z)) (fun _ z => z) r⟩, R.inj⟩
/-- [e for target in iter if test]: J by the turn, the free draws, the list so far -/
theorem fd_lc {wi : TI} {g : TG} {vs : List Nat} {R : Nat → List Dv → Prop} (h : WD c wi n env fun n0 items => ∃ J : Nat → Nat → List Dv → Prop, J 0 n0 [] ∧
      (∀ i n1 acc d, items[i]? = some d → J i n1 acc → GD c g vs d (wipeD env vs) fun env2 => TD c tt n1 env2 fun n2 b =>
        if b = true then ED c te n2 env2 fun n3 y => acc.length < sizeLine ∧ J (i + 1) n3 (acc ++ [y]) else J (i + 1) n2 acc) ∧ ∀ n1 acc, J items.length n1 acc → R n1 acc) :
    ED c (tLc wi g tt te vs) n env fun n1 d => ∃ ds, d = .lst ds ∧ R n1 ds := fun B H σ r Q q => by
  refine h B H σ r _ fun J H1 n1 items r1 e1 wk ⟨I, i0, step, fin⟩ D hD => ?_
  have sD : ∀ o, Same H1 (upd H1 D o) := fun o => same_new hD o
  have nD : ¬ B D := r1.new hD
  have nk : ¬ Dk c.wd D := fun z => nD (r1.dk D z)
  have noOwn : ∀ (i : Nat) (o : Ob), env[i]? = some (some (.own o)) → σ[i]? ≠ some (some (.ref D)) := fun i o hi hs => by
    obtain ⟨a, e, b, _⟩ := r1.own i o hi
    rw [e] at hs
    cases hs
    exact nD b
  let BD : Addr → Prop := fun a => B a ∨ a = D
  refine ⟨fun i m H2 => m = items.length - i ∧ i ≤ items.length ∧ ∃ n2 acc xs, Rel c BD n2 H2 σ env ∧ Ext0 c.wd H1 H2 ∧ H2 D = some (.lst xs) ∧ DtA c.wd BD c.K H2 xs acc ∧ I i n2 acc,
    ⟨items.length, by simp, Nat.zero_le _, n1, [], [], r1.more hD _, Ext0.same (sD _), upd_same, .nil, i0⟩, ?_⟩
  rintro i m H2 ⟨rfl, hi, n2, acc, xs, r2, e2, hx, hd, k2⟩
  have s2 : Step B H1 BD H2 := ⟨fun a o q z => e2 a o q fun y => z (r1.dk a y), fun a z => z.imp id fun y => by rw [y]; exact hD⟩
  obtain ⟨w1, w2⟩ := wk BD H2 s2 r2.live
  by_cases hlt : i < items.length
  · refine .inr ⟨(w1 i items[i] (by simp [hlt])).1, fun H3 => ∃ n3 acc xs, Rel c BD n3 H3 σ env ∧ Ext0 c.wd H1 H3 ∧ H3 D = some (.lst xs) ∧ DtA c.wd BD c.K H3 xs acc ∧ I (i + 1) n3 acc, fun H3 ⟨n3, acc, xs, p⟩ => ⟨items.length - (i + 1), by omega, rfl, hlt, n3, acc, xs, p⟩, fun x H' hy => ?_⟩
    obtain ⟨sm, hxd⟩ := (w1 i items[i] (by simp [hlt])).2 x H' hy
    have r2' := r2.same sm
    refine step i n2 acc items[i] (by simp [hlt]) k2 BD n2 H' (wipe σ vs) x (r2'.wipes vs) hxd _ fun σ3 env3 r3 w3 k3 => ⟨w3.trans wipe_wipe, ?_⟩
    refine k3 BD H' σ3 r3 _ fun b H4 n4 r4 e4 k4 => ?_
    have rE : Rel c BD n4 H4 σ env := r2'.ext e4 r4.wok
    have e24 : Ext0 c.wd H1 H4 := (e2.trans (Ext0.same sm)).trans e4
    cases b with
    | false => exact iteF ⟨n4, acc, xs, rE, e24, e4 D _ (sm D _ hx) nk, r3.dta e4 (dta_same sm hd), k4⟩
    | true =>
      refine iteT ((show ED c te n4 env3 _ from k4) BD H4 σ3 r4 _ fun y H5 n5 dy r5 e5 hy5 ⟨sz, k5⟩ => ?_)
      have hx5 : H5 D = some (.lst xs) := e5 D _ (e4 D _ (sm D _ hx) nk) nk
      have hd5 : DtA c.wd BD c.K H5 xs acc := r4.dta e5 (r3.dta e4 (dta_same sm hd))
      have rE5 : Rel c BD n5 H5 σ env := rE.ext e5 r5.wok
      have keepB : ∀ a o, H5 a = some o → ¬ BD a → upd H5 D (.lst (xs ++ [y])) a = some o := fun a o q z => by
        rw [upd_ne (show a ≠ D from fun w => z (.inr w))]
        exact q
      refine ⟨xs, hx5, by rw [hd5.length]; exact sz, n5, acc ++ [dy], xs ++ [y], rE5.turnP (.inr rfl) nk (r1.newHe hD) noOwn _, fun a o q z => ?_, upd_same, DtA.move keepB (fun _ z => .inl z) _ _ (hd5.append (.cons hy5 .nil)), k5⟩
      rw [upd_ne (show a ≠ D from fun w => by rw [w, hD] at q; cases q)]
      exact e5 a o (e24 a o q z) z
  · obtain rfl : i = items.length := by omega
    refine .inl ⟨w2 _ (Nat.le_refl _), ?_⟩
    have rF : Rel c B n2 H2 σ env := r2.fewer (fun a z => .inl z) r1.dk fun i o a hi hs => by
      obtain ⟨a', e, b, _⟩ := r1.own i o hi
      rw [e] at hs
      cases hs
      exact b
    exact q _ H2 n2 _ rF (e1.trans e2) (.lst ⟨nD, hx⟩ (DtA.move (fun _ _ e _ => e) (fun a z => .inl (.inl z)) _ _ hd)) ⟨acc, rfl, fin n2 acc k2⟩
theorem ed_lc {wi : TI} {g : TG} {vs : List Nat} {R : Nat → Dv → Prop} (h : WD c wi n env fun n0 items => ∃ J : Nat → Nat → List Dv → Prop, J 0 n0 [] ∧
      (∀ i n1 acc d, items[i]? = some d → J i n1 acc → GD c g vs d (wipeD env vs) fun env2 => TD c tt n1 env2 fun n2 b =>
        if b = true then ED c te n2 env2 fun n3 y => acc.length < sizeLine ∧ J (i + 1) n3 (acc ++ [y]) else J (i + 1) n2 acc) ∧ ∀ n1 acc, J items.length n1 acc → R n1 (.lst acc)) :
    ED c (tLc wi g tt te vs) n env R := ed_mono (fd_lc (R := fun n1 ds => R n1 (.lst ds)) h) fun n d ⟨ds, e, k⟩ => by subst e; exact k
end

/-! ### calls and promises over trees -/
/-- a def's promise over trees: from the free draws and the arguments, what is wanted of the free draws and the answer -/
abbrev Ct := Nat → List Dv → (Nat → Dv → Prop) → Prop
def spD (K : PySem.W.Frag) (C : Ct) : Sp := fun vs H Q _ => ∃ (wd : Wd) (B : Addr → Prop) (n : Nat) (ds : List Dv) (R : Nat → Dv → Prop),
  WOk wd n H ∧ (∀ a, Dk wd a → B a) ∧ (∀ a, B a → H a ≠ none) ∧ DtA wd B K H vs ds ∧ C n ds R ∧
  ∀ r H' n' d, WOk wd n' H' → Ext0 wd H H' → Dt wd B K H' r d → R n' d → Q r H'
section
variable {c : Cn} {n : Nat} {env : DL.Env}
theorem ed_call {C : Ct} {E : XK} {t : TA} {R : Nat → Dv → Prop} (h : AD c t n env fun n1 ds => C n1 ds R) : ED c (tCall (spD c.K C) [] E t) n env R := fun B H σ r Q q =>
  h B H σ r _ fun vs H1 n1 ds r1 e1 h1 k1 => ⟨c.wd, B, n1, ds, R, r1.wok, r1.dk, r1.live, by rw [List.append_nil]; exact h1, k1, fun v H2 n2 d w2 e2 h2 k2 => q v H2 n2 d (r1.ext e2 w2) (e1.trans e2) h2 k2⟩
theorem ed_callK {C : Ct} {E : XK} {t tk : TA} {gV : List V → List V → List V} {gD : List Dv → List Dv → List Dv} {R : Nat → Dv → Prop}
    (hg : ∀ {wd : Wd} {B : Addr → Prop} {K : PySem.W.Frag} {H : Hp} {vs us : List V} {ds es : List Dv}, DtA wd B K H vs ds → DtA wd B K H us es → DtA wd B K H (gV vs us) (gD ds es))
    (h : AD c t n env fun n1 ds => AD c tk n1 env fun n2 es => C n2 (gD ds es) R) : ED c (tCallK (spD c.K C) gV E t tk) n env R := fun B H σ r Q q =>
  h B H σ r _ fun vs H1 n1 ds r1 e1 h1 k1 => k1 B H1 σ r1 _ fun us H2 n2 es r2 e2 h2 k2 =>
    ⟨c.wd, B, n2, gD ds es, R, r2.wok, r2.dk, r2.live, hg (r1.dta e2 h1) h2, k2, fun v H3 n3 d w3 e3 h3 k3 => q v H3 n3 d (r2.ext e3 w3) ((e1.trans e2).trans e3) h3 k3⟩
end
/-- the locals at a def's entry -/
def startD (k : Nat) (ds : List Dv) : DL.Env := ds.map (fun d => some (.fz d)) ++ List.replicate (k - ds.length) none
theorem rel_start {wd : Wd} {B : Addr → Prop} {K : PySem.W.Frag} {H : Hp} {n : Nat} {vs : List V} {ds : List Dv} {N : List Str} (lv : ∀ a, B a → H a ≠ none) (w : WOk wd n H) (dk : ∀ a, Dk wd a → B a) (h : DtA wd B K H vs ds) :
    Rel ⟨wd, B, K, H, lv⟩ B n H (L2.start N vs) (startD N.length ds) where
  len := by simp [L2.start, startD, h.length]
  wok := w
  dk := dk
  live := lv
  ent := Ext0.refl _ _
  fz := fun i d hi => by
    unfold startD at hi
    by_cases q : i < ds.length
    · rw [List.getElem?_append_left (by simpa using q), List.getElem?_map] at hi
      cases e : ds[i]? with
      | none => rw [e] at hi; cases hi
      | some d' =>
        rw [e] at hi
        cases hi
        obtain ⟨v, h1, h2⟩ := h.get e
        refine ⟨v, ?_, h2⟩
        unfold L2.start
        rw [List.getElem?_append_left (by rw [List.length_map, h.length]; exact q), List.getElem?_map, h1]
        rfl
    · rw [List.getElem?_append_right (by simpa using q)] at hi
      have := List.mem_of_getElem? hi
      simp at this
  own := fun i o hi => by
    unfold startD at hi
    by_cases q : i < ds.length
    · rw [List.getElem?_append_left (by simpa using q), List.getElem?_map] at hi
      cases e : ds[i]? with
      | none => rw [e] at hi; cases hi
      | some d' => rw [e] at hi; cases hi
    · rw [List.getElem?_append_right (by simpa using q)] at hi
      have := List.mem_of_getElem? hi
      simp at this
  inj := fun i j o u a hi => by
    exfalso
    unfold startD at hi
    by_cases q : i < ds.length
    · rw [List.getElem?_append_left (by simpa using q), List.getElem?_map] at hi
      cases e : ds[i]? with
      | none => rw [e] at hi; cases hi
      | some d' => rw [e] at hi; cases hi
    · rw [List.getElem?_append_right (by simpa using q)] at hi
      have := List.mem_of_getElem? hi
      simp at this
/-- THE RULE for a def: a derivation of its body, and its reading over trees -/
theorem fnD {P : Program} {w : World} {K : PySem.W.Frag} {mg : Str → Option Value} {base : Heap} {k : Nat} {f : Addr} {fd : FuncData} {ps : List Str} {x qual : Str} {st : Stmt} {NN : List Str} {C : Ct}
    (F : Fun K x qual st f fd) (S : FnScope NN ps (defScope st)) (len : ∀ n ds R, C n ds R → ds.length = ps.length)
    (hb : ∀ (cdv : Value) (A : Around) (outer : List PySem.Env) (s : Shared) (H : Hp) (E : XK), A.guards = some [] →
      Room k (A.deeper (PyProof.Rows.envOfC qual (defScope st) s.heap.objs.size f cdv)) →
      ∃ t, PSs (cxOf CX0 P w K mg base NN qual (defScope st) f cdv A outer s H E).nox (defBody st) t ∧
        ∀ n ds R, C n ds R → ∀ c : Cn, c.K = K → SD c t n (startD NN.length ds) { nx := fun n _ => R n .non, rt := R }) :
    FnG P w K mg base CX0 (k + 1) f fd ps (spD K C) := by
  refine okG F S (fun vs H Q E ⟨wd, B, n, ds, R, _, _, _, hd, hC, _⟩ => by rw [hd.length]; exact len n ds R hC) fun cdv A outer s H vs Q E hg hr hsp => ?_
  obtain ⟨t, ht, hq⟩ := hb cdv A outer s H E hg hr
  obtain ⟨wd, B, n, ds, R, hw, hk, lv, hd, hC, hQ⟩ := hsp
  refine ⟨t, ht.nox, ?_⟩
  refine hq n ds R hC ⟨wd, B, K, H, lv⟩ rfl B H _ (fun _ z => z) (rel_start lv hw hk hd) _ ⟨fun B2 H2 σ2 n2 env2 s2 b2 r2 k2 => ?_, fun _ _ _ _ _ _ _ _ z => z.elim, fun _ _ _ _ _ _ _ _ z => z.elim, fun v H2 n2 d w2 e2 h2 k2 => hQ v H2 n2 d w2 e2 h2 k2⟩
  exact hQ .non H2 n2 .non r2.wok r2.ent .non k2
end DL

set_option Elab.async false
set_option linter.all false
set_option maxRecDepth 100000
set_option maxHeartbeats 2000000
/-! D5: trees as the library's data: repr and ==. -/
namespace DL
open PySem PySem.Spec L2

/-! ### as the library's data -/
def pyK : Key → PyData
  | .inl i => .int i
  | .inr x => .str x
mutual
def py : Dv → PyData
  | .non => .none
  | .bl b => .bool b
  | .int i => .int i
  | .str x => .str x
  | .tup ds => .tuple (pyA ds)
  | .lst ds => .list (pyA ds)
  | .dic es => .dict (pyE es)
  | _ => .none
def pyA : List Dv → List PyData
  | [] => []
  | d :: ds => py d :: pyA ds
def pyE : List (Key × Dv) → List (PyData × PyData)
  | [] => []
  | (k, d) :: es => (pyK k, py d) :: pyE es
end
mutual
/-- no object, no deck within -/
def plain : Dv → Bool
  | .tup ds => plainA ds
  | .lst ds => plainA ds
  | .dic es => plainE es
  | .ins _ _ => false
  | .deck _ => false
  | .scr _ => false
  | _ => true
def plainA : List Dv → Bool
  | [] => true
  | d :: ds => plain d && plainA ds
def plainE : List (Key × Dv) → Bool
  | [] => true
  | (_, d) :: es => plain d && plainE es
end

section
variable {X : Cx} {pins : List (Addr × Obj)} {σ : L2.St} {H : Hp} {s : Shared} {wd : Wd} {B : Addr → Prop}
theorem key_reads {h : Heap} {k : Key} {v : Value} (e : keyIs k v = true) : ∃ as, Reads h v (pyK k) as := by
  rcases keyIs_shape e with ⟨i, t, rfl, rfl⟩ | ⟨x, t, rfl, rfl⟩
  · exact ⟨_, .int i t⟩
  · exact ⟨_, .str x t⟩
mutual
theorem Dt.reads (I : Inv X pins σ H s) : ∀ (d : Dv) (v : V) (u : Value), Dt wd B X.K H v d → plain d = true → RelV v u → ∃ as, Reads s.heap u (py d) as
  | .non, _, _, h, _, r => by cases h; cases r; exact ⟨_, .none⟩
  | .bl b, _, _, h, _, r => by cases h; cases r; exact ⟨_, .bool b⟩
  | .int i, _, _, h, _, r => by cases h; obtain ⟨t, rfl⟩ := r; exact ⟨_, .int i t⟩
  | .str x, _, _, h, _, r => by cases h; obtain ⟨t, rfl⟩ := r; exact ⟨_, .str x t⟩
  | .tup ds, _, _, h, p, r => by
    cases h with
    | tup hq hd =>
      cases r
      obtain ⟨its, rv, ⟨o, ho, hc, n, hn⟩, _⟩ := I.tuple hq.sq
      obtain ⟨as, hr⟩ := DtA.reads I ds _ its hd (by simpa [plain] using p) rv
      exact ⟨_, .tuple ho hc hn hr⟩
  | .lst ds, _, _, h, p, r => by
    cases h with
    | lst hq hd =>
      cases r
      obtain ⟨its, rv, ⟨o, n, ho, hc, _, hn⟩, _⟩ := I.list (QL.sq hq)
      obtain ⟨as, hr⟩ := DtA.reads I ds _ its hd (by simpa [plain] using p) rv
      exact ⟨_, .list ho hc hn hr⟩
  | .dic es, _, _, h, p, r => by
    cases h with
    | dic hb ha hd =>
      cases r
      obtain ⟨_, _, vs, kv, o, ee, ep, ho, hx, hn, _, hp, _⟩ := dk_of I.hok ha
      obtain ⟨as, bs, h1, h2⟩ := DtK.reads I es _ vs ee.toList hd (by simpa [plain] using p) kv hp
      exact ⟨_, .dict ho hx.1 hn h1 h2⟩
  | .ins _ _, _, _, _, p, _ => by simp [plain] at p
  | .deck _, _, _, _, p, _ => by simp [plain] at p
  | .scr _, _, _, _, p, _ => by simp [plain] at p
theorem DtA.reads (I : Inv X pins σ H s) : ∀ (ds : List Dv) (vs : List V) (us : List Value), DtA wd B X.K H vs ds → plainA ds = true → Vals vs us → ∃ as, ReadsAll s.heap us (pyA ds) as
  | [], _, _, h, _, r => by cases h; cases r; exact ⟨_, .nil⟩
  | d :: ds, _, _, h, p, r => by
    have p' : plain d = true ∧ plainA ds = true := by simpa [plainA] using p
    cases h with
    | cons h1 h2 =>
      cases r with
      | cons r1 r2 =>
        obtain ⟨as, q1⟩ := Dt.reads I d _ _ h1 p'.1 r1
        obtain ⟨bs, q2⟩ := DtA.reads I ds _ _ h2 p'.2 r2
        exact ⟨_, .cons q1 q2⟩
theorem DtK.reads (I : Inv X pins σ H s) : ∀ (es : List (Key × Dv)) (kvs : List (Key × V)) (vs : List (Key × Value)) (ee : List DictEntry), DtK wd B X.K H kvs es → plainE es = true → KV kvs vs → Pairs (mixKind X.prog X.w) ee vs →
    ∃ as bs, ReadsAll s.heap (ee.map (·.key)) ((pyE es).map (·.1)) as ∧ ReadsAll s.heap (ee.map (·.val)) ((pyE es).map (·.2)) bs
  | [], _, _, _, h, _, r, q => by
    cases h
    cases r
    cases q
    exact ⟨_, _, .nil, .nil⟩
  | (k, d) :: es, _, _, _, h, p, r, q => by
    have p' : plain d = true ∧ plainE es = true := by simpa [plainE] using p
    cases h with
    | cons h1 h2 =>
      cases r with
      | cons r1 r2 =>
        cases q with
        | cons q1 q2 q3 =>
          obtain ⟨as, bs, z1, z2⟩ := DtK.reads I es _ _ _ h2 p'.2 r2 q3
          obtain ⟨rk, rv⟩ := r1
          simp only at rk rv
          rw [← rk] at q1
          obtain ⟨a1, y1⟩ := key_reads (h := s.heap) (show keyIs k _ = true from q1)
          obtain ⟨a2, y2⟩ := Dt.reads I d _ _ h1 p'.1 rv
          rw [← q2] at y2
          exact ⟨_, _, .cons y1 z1, .cons y2 z2⟩
end
end

/-! ### repr -/
section
variable {X : Cx} {pins : List (Addr × Obj)} {σ : L2.St} {H : Hp} {s : Shared} {wd : Wd} {B : Addr → Prop}
theorem key_repr {h : Heap} {k : Key} {v : Value} (e : keyIs k v = true) (hs : (pyK k).showable = true) (hz : (pyK k).shown.length ≤ sizeLine) (bs : List Addr) (n : Nat) : ReprK X.prog X.w bs h n v (pyK k).shown := by
  rcases keyIs_shape e with ⟨i, t, rfl, rfl⟩ | ⟨x, t, rfl, rfl⟩
  · simp only [pyK, PyData.shown]
    exact .of_is (ReprIs.int t (by simpa [pyK, PyData.showable] using hs)) _ _ _
  · simp only [pyK, PyData.shown]
    exact .of_is (ReprIs.str x t (by simpa only [pyK, PyData.shown] using hz)) _ _ _
theorem entries_mono {as as' : List Addr} {n m : Nat} {h : Heap} {P : Program} {w : World} (hs : ∀ b ∈ as, b ∈ as') (hd : n ≤ m) : ∀ {es : List DictEntry} {ts : List Str}, ReprEntriesK P w as h n es ts → ReprEntriesK P w as' h m es ts
  | _, _, .nil => .nil
  | _, _, .cons a b r => .cons ((a.more hs).level_le hd) ((b.more hs).level_le hd) (entries_mono hs hd r)
mutual
theorem Dt.reprK (I : Inv X pins σ H s) : ∀ (d : Dv) (v : V) (u : Value), Dt wd B X.K H v d → plain d = true → RelV v u → (py d).showable = true → (py d).shown.length ≤ sizeLine →
    ∃ bs, ReadAtMost s.heap (py d).depth bs ∧ ReprK X.prog X.w bs s.heap (py d).depth u (py d).shown
  | .non, _, _, h, _, r, _, _ => by cases h; cases r; exact ⟨[], (fun _ h => nomatch h), by simp only [py, PyData.shown]; exact .of_is ReprIs.none _ _ _⟩
  | .bl b, _, _, h, _, r, _, _ => by cases h; cases r; exact ⟨[], (fun _ h => nomatch h), by simp only [py, PyData.shown]; exact .of_is (ReprIs.bool b) _ _ _⟩
  | .int i, _, _, h, _, r, hs, _ => by cases h; obtain ⟨t, rfl⟩ := r; exact ⟨[], (fun _ h => nomatch h), by simp only [py, PyData.shown]; exact .of_is (ReprIs.int t (by simpa [py, PyData.showable] using hs)) _ _ _⟩
  | .str x, _, _, h, _, r, _, hz => by cases h; obtain ⟨t, rfl⟩ := r; exact ⟨[], (fun _ h => nomatch h), by simp only [py, PyData.shown]; exact .of_is (ReprIs.str x t (by simpa only [py, PyData.shown] using hz)) _ _ _⟩
  | .tup ds, _, _, h, p, r, hs, hz => by
    obtain ⟨as0, rd⟩ := Dt.reads I (.tup ds) _ _ h p r
    cases h with
    | tup hq hd =>
      cases r
      obtain ⟨its, rv, ⟨o, ho, hc, n, hn⟩, _⟩ := I.tuple hq.sq
      simp only [py, PyData.showable, PyData.shown] at hs hz
      obtain ⟨bs, hb, hk⟩ := DtA.reprK I ds _ its hd (by simpa [plain] using p) rv hs fun t ht => Nat.le_trans (tupleText_mem_le ht) hz
      have hna := not_mem_of_deeper rd (by simp only [py, PyData.depth]; omega) hb
      refine ⟨_ :: bs, ReadAtMost.cons rd (by simp only [py, PyData.depth]; omega) hb, ?_⟩
      simp only [py, PyData.depth, PyData.shown]
      exact ReprK.tuple ho hc hn hna hk
  | .lst ds, _, _, h, p, r, hs, hz => by
    obtain ⟨as0, rd⟩ := Dt.reads I (.lst ds) _ _ h p r
    cases h with
    | lst hq hd =>
      cases r
      obtain ⟨its, rv, ⟨o, n, ho, hc, _, hn⟩, _⟩ := I.list (QL.sq hq)
      simp only [py, PyData.showable, PyData.shown] at hs hz
      obtain ⟨bs, hb, hk⟩ := DtA.reprK I ds _ its hd (by simpa [plain] using p) rv hs fun t ht => Nat.le_trans (listText_mem_le ht) hz
      have hna := not_mem_of_deeper rd (by simp only [py, PyData.depth]; omega) hb
      refine ⟨_ :: bs, ReadAtMost.cons rd (by simp only [py, PyData.depth]; omega) hb, ?_⟩
      simp only [py, PyData.depth, PyData.shown]
      cases rv with
      | nil =>
        cases hd
        simp only [pyA, PyData.shownAll, listText_nil]
        exact ReprK.listEmpty ho hc hn
      | cons r1 r2 => exact ReprK.list ho hc hn hna (by simpa using hk.length_eq) (fun i y e => hk.item i y (by simpa using e))
  | .dic es, _, _, h, p, r, hs, hz => by
    obtain ⟨as0, rd⟩ := Dt.reads I (.dic es) _ _ h p r
    cases h with
    | dic hb0 ha hd =>
      cases r
      obtain ⟨_, hsys, vs, kv, o, ee, ep, ho, hx, hn, _, hp, _⟩ := dk_of I.hok ha
      simp only [py, PyData.showable, PyData.shown] at hs hz
      obtain ⟨bs, hb, hk⟩ := DtK.reprK I es _ vs ee.toList hd (by simpa [plain] using p) kv hp hs fun t ht => Nat.le_trans (dictText_mem_le ht) hz
      have hna := not_mem_of_deeper rd (by simp only [py, PyData.depth]; omega) hb
      refine ⟨_ :: bs, ReadAtMost.cons rd (by simp only [py, PyData.depth]; omega) hb, ?_⟩
      simp only [py, PyData.depth, PyData.shown]
      exact ReprK.dict ho hx.1 hn hsys hna hk
  | .ins _ _, _, _, _, p, _, _, _ => by simp [plain] at p
  | .deck _, _, _, _, p, _, _, _ => by simp [plain] at p
  | .scr _, _, _, _, p, _, _, _ => by simp [plain] at p
theorem DtA.reprK (I : Inv X pins σ H s) : ∀ (ds : List Dv) (vs : List V) (us : List Value), DtA wd B X.K H vs ds → plainA ds = true → Vals vs us → PyData.showableAll (pyA ds) = true → (∀ t ∈ PyData.shownAll (pyA ds), t.length ≤ sizeLine) →
    ∃ bs, ReadAtMost s.heap (PyData.depthAll (pyA ds)) bs ∧ ReprAllK X.prog X.w bs s.heap (PyData.depthAll (pyA ds)) us (PyData.shownAll (pyA ds))
  | [], _, _, h, _, r, _, _ => by cases h; cases r; exact ⟨[], (fun _ h => nomatch h), by simp only [pyA, PyData.shownAll]; exact .nil⟩
  | d :: ds, _, _, h, p, r, hs, hz => by
    have p' : plain d = true ∧ plainA ds = true := by simpa [plainA] using p
    have hs' : (py d).showable = true ∧ PyData.showableAll (pyA ds) = true := by simpa [pyA, PyData.showableAll] using hs
    cases h with
    | cons h1 h2 =>
      cases r with
      | cons r1 r2 =>
        obtain ⟨b1, hb1, k1⟩ := Dt.reprK I d _ _ h1 p'.1 r1 hs'.1 (hz _ (by simp only [pyA, PyData.shownAll]; exact List.mem_cons_self ..))
        obtain ⟨b2, hb2, k2⟩ := DtA.reprK I ds _ _ h2 p'.2 r2 hs'.2 fun t ht => hz t (by simp only [pyA, PyData.shownAll]; exact List.mem_cons_of_mem _ ht)
        refine ⟨b1 ++ b2, (hb1.mono ?_).append (hb2.mono ?_), ?_⟩
        · simp only [pyA, PyData.depthAll]; exact Nat.le_max_left _ _
        · simp only [pyA, PyData.depthAll]; exact Nat.le_max_right _ _
        · simp only [pyA, PyData.depthAll, PyData.shownAll]
          exact .cons ((k1.more fun b hb => List.mem_append_left _ hb).level_le (Nat.le_max_left _ _)) (k2.more_le (fun b hb => List.mem_append_right _ hb) (Nat.le_max_right _ _))
theorem DtK.reprK (I : Inv X pins σ H s) : ∀ (es : List (Key × Dv)) (kvs : List (Key × V)) (vs : List (Key × Value)) (ee : List DictEntry), DtK wd B X.K H kvs es → plainE es = true → KV kvs vs → Pairs (mixKind X.prog X.w) ee vs → PyData.showableKv (pyE es) = true → (∀ t ∈ PyData.shownKv (pyE es), t.length ≤ sizeLine) →
    ∃ bs, ReadAtMost s.heap (PyData.depthKv (pyE es)) bs ∧ ReprEntriesK X.prog X.w bs s.heap (PyData.depthKv (pyE es)) ee (PyData.shownKv (pyE es))
  | [], _, _, _, h, _, r, q, _, _ => by
    cases h
    cases r
    cases q
    exact ⟨[], (fun _ h => nomatch h), by simp only [pyE, PyData.shownKv]; exact .nil⟩
  | (k, d) :: es, _, _, _, h, p, r, q, hs, hz => by
    have p' : plain d = true ∧ plainE es = true := by simpa [plainE] using p
    have hs' : ((pyK k).showable = true ∧ (py d).showable = true) ∧ PyData.showableKv (pyE es) = true := by simpa [pyE, PyData.showableKv] using hs
    have l1 : ((pyK k).shown ++ ": " ++ (py d).shown).length ≤ sizeLine := hz _ (by simp only [pyE, PyData.shownKv]; exact List.mem_cons_self ..)
    rw [strLen_append, strLen_append] at l1
    cases h with
    | cons h1 h2 =>
      cases r with
      | cons r1 r2 =>
        cases q with
        | cons q1 q2 q3 =>
          obtain ⟨rk, rv⟩ := r1
          simp only at rk rv
          rw [← rk] at q1
          obtain ⟨b1, hb1, k1⟩ := Dt.reprK I d _ _ h1 p'.1 rv hs'.1.2 (by omega)
          obtain ⟨b2, hb2, k2⟩ := DtK.reprK I es _ _ _ h2 p'.2 r2 q3 hs'.2 fun t ht => hz t (by simp only [pyE, PyData.shownKv]; exact List.mem_cons_of_mem _ ht)
          refine ⟨b1 ++ b2, (hb1.mono ?_).append (hb2.mono ?_), ?_⟩
          · simp only [pyE, PyData.depthKv]; omega
          · simp only [pyE, PyData.depthKv]; omega
          · simp only [pyE, PyData.depthKv, PyData.shownKv]
            refine .cons (key_repr (show keyIs k _ = true from q1) hs'.1.1 (by omega) _ _) ?_ ?_
            · rw [q2]
              exact (k1.more fun b hb => List.mem_append_left _ hb).level_le (by omega)
            · exact entries_mono (fun b hb => List.mem_append_right _ hb) (by omega) k2
end
/-- repr(x), where no guard runs -/
def rRepr (K : PySem.W.Frag) : List V → Hp → VK → Prop := fun xs H Q => ∃ (wd : Wd) (B : Addr → Prop) (x : V) (d : Dv), xs = [x] ∧ Dt wd B K H x d ∧ plain d = true ∧ (py d).showable = true ∧ (py d).depth ≤ 60 ∧ (py d).shown.length ≤ sizeLine ∧ Q (.str (py d).shown) H
theorem call_repr {k : Nat} (hg : X.A.guards = some []) (hr : Room k X.A) : CallR X (.builtin "repr") (rRepr X.K) := by
  intro pins s σ H xs us Q I r h
  obtain ⟨wd, B, x, d, rfl, hd, hp, hs, hdp, hz, q⟩ := h
  obtain ⟨u, rfl, ru⟩ := Vals.one r
  have hu := hr.units
  obtain ⟨as0, rd⟩ := Dt.reads I d x u hd hp ru
  have fin : ∀ (h' : Heap) (tk t : Nat), (∀ b o, s.heap.get? b = some o → h'.get? b = some o) → EP X pins σ Q (.str (py d).shown t) { s with heap := h', toks := tk } := fun h' tk t kp => ⟨.str (py d).shown, H, I.kept kp, ⟨_, rfl⟩, q⟩
  cases d with
  | non => cases hd; cases ru; exact PySem.P.repr_of_none (by simpa only [py, PyData.shown] using fin s.heap _ _ fun _ _ e => e)
  | bl b => cases hd; cases ru; exact PySem.P.repr_of_bool (by simpa only [py, PyData.shown] using fin s.heap _ _ fun _ _ e => e)
  | int i =>
    cases hd
    obtain ⟨t, rfl⟩ := ru
    exact PySem.P.repr_of_int (by simpa [py, PyData.showable] using hs) (by simpa only [py, PyData.shown] using fin s.heap _ _ fun _ _ e => e)
  | str y =>
    cases hd
    obtain ⟨t, rfl⟩ := ru
    exact PySem.P.repr_of_str (by simpa only [py, PyData.shown] using fin s.heap _ _ fun _ _ e => e) (by simpa only [py, PyData.shown] using hz)
  | tup ds =>
    cases hd with
    | tup hq hd' =>
      cases ru
      obtain ⟨its, rv, ⟨o, ho, hc, n, hn⟩, _⟩ := I.tuple hq.sq
      simp only [py, PyData.showable, PyData.shown, PyData.depth] at hs hz hdp fin
      obtain ⟨bs, hb, hk⟩ := DtA.reprK I ds _ its hd' (by simpa [plain] using hp) rv hs fun t ht => Nat.le_trans (tupleText_mem_le ht) hz
      have hna := not_mem_of_deeper rd (by simp only [py, PyData.depth]; omega) hb
      refine call_repr_slot (T := "tuple") (by omega) ⟨o, ho, hc⟩ F.slot_tuple_repr ?_
      exact call_tuple_reprK ho hc hn hna hk hg (fun b _ => Clear.nil b) (by show X.A.units + 1 + _ < cLine; omega) (fun _ _ e => e) (fun h' t tk kp => ⟨_, _, rfl, fin h' tk t kp⟩) hz
  | lst ds =>
    cases hd with
    | lst hq hd' =>
      cases ru
      obtain ⟨its, rv, ⟨o, n, ho, hc, _, hn⟩, _⟩ := I.list (QL.sq hq)
      simp only [py, PyData.showable, PyData.shown, PyData.depth] at hs hz hdp fin
      obtain ⟨bs, hb, hk⟩ := DtA.reprK I ds _ its hd' (by simpa [plain] using hp) rv hs fun t ht => Nat.le_trans (listText_mem_le ht) hz
      have hna := not_mem_of_deeper rd (by simp only [py, PyData.depth]; omega) hb
      refine call_repr_slot (T := "list") (by omega) ⟨o, ho, hc⟩ F.slot_list_repr.toG ?_
      cases rv with
      | nil =>
        cases hd'
        simp only [pyA, PyData.shownAll, listText_nil] at fin
        exact call_list_repr_empty ⟨o, ho, hc⟩ ho hn ⟨_, _, rfl, fin s.heap _ _ fun _ _ e => e⟩
      | cons r1 r2 => exact call_list_reprK ho hc hn hna (by simpa using hk.length_eq) (fun i y e => hk.item i y (by simpa using e)) hg (fun b _ => Clear.nil b) (by show X.A.units + 1 + _ < cLine; omega) (fun _ _ e => e) (fun h' t tk kp => ⟨_, _, rfl, fin h' tk t kp⟩) hz
  | dic es =>
    cases hd with
    | dic hb0 ha hd' =>
      cases ru
      obtain ⟨_, hsys, vs, kv, o, ee, ep, ho, hx, hn, _, hpp, _⟩ := dk_of I.hok ha
      simp only [py, PyData.showable, PyData.shown, PyData.depth] at hs hz hdp fin
      obtain ⟨bs, hb, hk⟩ := DtK.reprK I es _ vs ee.toList hd' (by simpa [plain] using hp) kv hpp hs fun t ht => Nat.le_trans (dictText_mem_le ht) hz
      have hna := not_mem_of_deeper rd (by simp only [py, PyData.depth]; omega) hb
      refine call_repr_slot (T := "dict") (by omega) ⟨o, ho, hx.1⟩ F.slot_dict_repr ?_
      exact call_dict_reprK ho hx.1 hn hsys hna hk hg (fun b _ => Clear.nil b) (by show X.A.units + 1 + _ < cLine; omega) (fun _ _ e => e) (fun h' t tk kp => ⟨_, _, rfl, fin h' tk t kp⟩) hz
  | ins _ _ => simp [plain] at hp
  | deck _ => simp [plain] at hp
  | scr _ => simp [plain] at hp
end

/-! ### == -/
def rEqT (K : PySem.W.Frag) (neg : Bool) : R2 := fun x y H Q => ∃ (wd : Wd) (B : Addr → Prop) (d e : Dv), Dt wd B K H x d ∧ Dt wd B K H y e ∧ plain d = true ∧ plain e = true ∧ SeqAt.shaped (py d) = true ∧ SeqAt.shaped (py e) = true ∧ Q (.bl (if neg then !PyData.eqv (py d) (py e) else PyData.eqv (py d) (py e))) H
section
variable {X : Cx}
theorem op_eqT (hu : X.A.units + 64 < cLine) : OpR X (compareOp .Eq) (rEqT X.K false) := by
  intro pins s σ H x y v u Q I rx ry h
  obtain ⟨wd, B, d, e, hd, he, pd, pe, sd, se, q⟩ := h
  obtain ⟨as, r1⟩ := Dt.reads I d x v hd pd rx
  obtain ⟨bs, r2⟩ := Dt.reads I e y u he pe ry
  exact SeqAt.compareEq_shaped r1 r2 sd se hu ⟨.bl _, H, I, rfl, q⟩
theorem op_neT (hu : X.A.units + 64 < cLine) : OpR X (compareOp .NotEq) (rEqT X.K true) := by
  intro pins s σ H x y v u Q I rx ry h
  obtain ⟨wd, B, d, e, hd, he, pd, pe, sd, se, q⟩ := h
  obtain ⟨as, r1⟩ := Dt.reads I d x v hd pd rx
  obtain ⟨bs, r2⟩ := Dt.reads I e y u he pe ry
  exact SeqAt.compareNe_shaped r1 r2 sd se hu ⟨.bl _, H, I, rfl, q⟩
end
end DL

set_option Elab.async false
set_option linter.all false
set_option maxRecDepth 100000
set_option maxHeartbeats 2000000
/-! D6: operators and built-ins over trees. -/
namespace DL
open PySem PySem.Spec L2

section
variable {X : Cx}
/-! ### unions: one rule for a sign of the text, whatever the values are -/
def rAddS : R2 := fun x y H Q => ∃ i j, x = .str i ∧ y = .str j ∧ i.length + j.length ≤ sizeLine ∧ Q (.str (i ++ j)) H
def rAddU (K : PySem.W.Frag) : R2 := fun x y H Q => rI0 (fun i j => .int (i + j)) x y H Q ∨ rAddS x y H Q ∨ rCat x y H Q ∨ rCatA K x y H Q
theorem op_addU : OpR X (binaryOp .Add) (rAddU X.K) := OpR.or op_add (OpR.or op_add_str (OpR.or op_cat op_catA))
def rMulU : R2 := fun x y H Q => rI CMul (fun i j => .int (i * j)) x y H Q ∨ rRep x y H Q
theorem op_mulU : OpR X (binaryOp .Mult) rMulU := OpR.or op_mul op_rep
/-- comparisons of numbers and of texts -/
def rCmpU (f : Int → Int → Bool) (g : List Nat → List Nat → Bool) : R2 := fun x y H Q => rI0 (fun i j => .bl (f i j)) x y H Q ∨ ∃ i j, x = .str i ∧ y = .str j ∧ Q (.bl (g i.cps.toList j.cps.toList)) H
theorem op_ltU : OpR X (compareOp .Lt) (rCmpU (fun i j => decide (i < j)) fun a b => decide (a < b)) := OpR.or op_lt op_lt_str
theorem op_leU : OpR X (compareOp .LtE) (rCmpU (fun i j => decide (i ≤ j)) fun a b => !decide (b < a)) := OpR.or op_le op_le_str
theorem op_gtU : OpR X (compareOp .Gt) (rCmpU (fun i j => decide (j < i)) fun a b => decide (b < a)) := OpR.or op_gt op_gt_str
theorem op_geU : OpR X (compareOp .GtE) (rCmpU (fun i j => decide (j ≤ i)) fun a b => !decide (a < b)) := OpR.or op_ge op_ge_str
/-- in: a sign in a text, a text in a text, a flat value in a list or tuple -/
def rInS1 (neg : Bool) : R2 := fun x y H Q => ∃ (c : Nat) (z : Str), x = .str ⟨#[c]⟩ ∧ y = .str z ∧ Q (.bl (if neg then !decide (c ∈ z.cps.toList) else decide (c ∈ z.cps.toList))) H
def rInU (K : PySem.W.Frag) (neg : Bool) : R2 := fun x y H Q => rInS1 neg x y H Q ∨ rIn K neg x y H Q
theorem op_inU : OpR X (compareOp .In) (rInU X.K false) := OpR.or op_in_sign op_in_seq
theorem op_notInU : OpR X (compareOp .NotIn) (rInU X.K true) := OpR.or op_notIn_sign op_notIn_seq
/-- slices -/
def rSlU (K : PySem.W.Frag) : V → Option Int → Option Int → Hp → VK → Prop := fun x lo hi H Q => rSlL K x lo hi H Q ∨ rSlA K x lo hi H Q ∨ rSlS x lo hi H Q
theorem sl_U : SlR X (rSlU X.K) := SlR.or sl_list (SlR.or sl_tupA sl_str)
end

section
variable {c : Cn} {R : Dv → Prop}
/-! ### arithmetic -/
theorem od_add {i j : Int} (k : R (.int (i + j))) : OD c (rAddU c.K) (.int i) (.int j) R := fun B H x y lv hx hy Q q => by
  cases hx; cases hy
  exact .inl ⟨i, j, rfl, rfl, q _ H _ (Same.refl _) (.int _) k⟩
theorem od_adds {a b : Str} (l : a.length + b.length ≤ sizeLine) (k : R (.str (a ++ b))) : OD c (rAddU c.K) (.str a) (.str b) R := fun B H x y lv hx hy Q q => by
  cases hx; cases hy
  exact .inr (.inl ⟨a, b, rfl, rfl, l, q _ H _ (Same.refl _) (.str _) k⟩)
theorem od_addl {ds es : List Dv} (l : ds.length + es.length ≤ sizeLine) (k : R (.lst (ds ++ es))) : OD c (rAddU c.K) (.lst ds) (.lst es) R := fun B H x y lv hx hy Q q => by
  cases hx with
  | lst q1 d1 =>
    cases hy with
    | lst q2 d2 =>
      refine .inr (.inr (.inl ⟨_, _, _, _, rfl, rfl, q1.2, q2.2, by rw [d1.length, d2.length]; exact l, fun p hp => ?_⟩))
      exact q _ _ _ (same_new hp _) (.lst (ql_new lv hp) (dta_same (same_new hp _) (d1.append d2))) k
theorem od_addt {ds es : List Dv} (l : ds.length + es.length ≤ sizeLine) (k : R (.tup (ds ++ es))) : OD c (rAddU c.K) (.tup ds) (.tup es) R := fun B H x y lv hx hy Q q => by
  have hx0 := hx
  have hy0 := hy
  cases hx with
  | tup q1 d1 =>
    cases hy with
    | tup q2 d2 =>
      refine .inr (.inr (.inr ⟨_, _, _, _, rfl, rfl, q1.sq, q2.sq, by rw [d1.length, d2.length]; exact l, fun e => ?_, fun _ e => ?_, fun _ _ p hp => ?_⟩))
      · subst e
        cases d1
        exact q _ H _ (Same.refl _) hy0 k
      · subst e
        cases d2
        rw [List.append_nil] at k
        exact q _ H _ (Same.refl _) hx0 k
      · exact q _ _ _ (same_new hp _) (.tup (qt_new lv hp) (dta_same (same_new hp _) (d1.append d2))) k
theorem od_sub {i j : Int} (k : R (.int (i - j))) : OD c (rI0 fun i j => .int (i - j)) (.int i) (.int j) R := fun B H x y lv hx hy Q q => by
  cases hx; cases hy
  exact ⟨i, j, rfl, rfl, q _ H _ (Same.refl _) (.int _) k⟩
theorem od_mul {i j : Int} (l : CMul i j) (k : R (.int (i * j))) : OD c rMulU (.int i) (.int j) R := fun B H x y lv hx hy Q q => by
  cases hx; cases hy
  exact .inl ⟨i, j, rfl, rfl, l, q _ H _ (Same.refl _) (.int _) k⟩
theorem dta_rep {wd : Wd} {B : Addr → Prop} {K : PySem.W.Frag} {H : Hp} {vs : List V} {ds : List Dv} (h : DtA wd B K H vs ds) : ∀ n : Nat, DtA wd B K H (List.replicate n vs).flatten (List.replicate n ds).flatten
  | 0 => .nil
  | n + 1 => by
    rw [List.replicate_succ, List.replicate_succ, List.flatten_cons, List.flatten_cons]
    exact h.append (dta_rep h n)
theorem od_rep {ds : List Dv} {n : Nat} (h2 : (n : Int) < 2 ^ 63) (l : ds.length * n ≤ sizeLine) (k : R (.lst (List.replicate n ds).flatten)) : OD c rMulU (.lst ds) (.int (n : Int)) R := fun B H x y lv hx hy Q q => by
  cases hy
  cases hx with
  | lst q1 d1 =>
    refine .inr ⟨_, _, _, rfl, rfl, q1.2, by omega, h2, by rw [d1.length]; simpa using l, fun p hp => ?_⟩
    exact q _ _ _ (same_new hp _) (.lst (ql_new lv hp) (dta_same (same_new hp _) (dta_rep d1 _))) (by simpa using k)
theorem od_fdiv {i j : Int} (l : CDiv i j) (k : R (.int (i / j))) : OD c (rI CDiv fun i j => .int (i / j)) (.int i) (.int j) R := fun B H x y lv hx hy Q q => by
  cases hx; cases hy
  exact ⟨i, j, rfl, rfl, l, q _ H _ (Same.refl _) (.int _) k⟩
theorem od_mod {i j : Int} (l : 0 < j) (k : R (.int (i % j))) : OD c (rI (fun _ j => 0 < j) fun i j => .int (i % j)) (.int i) (.int j) R := fun B H x y lv hx hy Q q => by
  cases hx; cases hy
  exact ⟨i, j, rfl, rfl, l, q _ H _ (Same.refl _) (.int _) k⟩
theorem od_pow {i j : Int} (l : CPow i j) (k : R (.int (i ^ j.toNat))) : OD c (rI CPow fun i j => .int (i ^ j.toNat)) (.int i) (.int j) R := fun B H x y lv hx hy Q q => by
  cases hx; cases hy
  exact ⟨i, j, rfl, rfl, l, q _ H _ (Same.refl _) (.int _) k⟩
theorem ud_neg {i : Int} (k : R (.int (-i))) : UD c (rU fun i => .int (-i)) (.int i) R := fun B H x lv hx Q q => by
  cases hx
  exact ⟨i, rfl, q _ H _ (Same.refl _) (.int _) k⟩
/-! ### comparisons -/
theorem od_cmp {f : Int → Int → Bool} {g : List Nat → List Nat → Bool} {i j : Int} (k : R (.bl (f i j))) : OD c (rCmpU f g) (.int i) (.int j) R := fun B H x y lv hx hy Q q => by
  cases hx; cases hy
  exact .inl ⟨i, j, rfl, rfl, q _ H _ (Same.refl _) (.bl _) k⟩
theorem od_cmps {f : Int → Int → Bool} {g : List Nat → List Nat → Bool} {a b : Str} (k : R (.bl (g a.cps.toList b.cps.toList))) : OD c (rCmpU f g) (.str a) (.str b) R := fun B H x y lv hx hy Q q => by
  cases hx; cases hy
  exact .inr ⟨a, b, rfl, rfl, q _ H _ (Same.refl _) (.bl _) k⟩
theorem od_eq {neg : Bool} {d e : Dv} (p : plain d = true ∧ plain e = true ∧ SeqAt.shaped (py d) = true ∧ SeqAt.shaped (py e) = true) (k : R (.bl (if neg then !PyData.eqv (py d) (py e) else PyData.eqv (py d) (py e)))) : OD c (rEqT c.K neg) d e R := fun B H x y lv hx hy Q q =>
  ⟨c.wd, B, d, e, hx, hy, p.1, p.2.1, p.2.2.1, p.2.2.2, q _ H _ (Same.refl _) (.bl _) k⟩
theorem od_ins {neg : Bool} {a : Nat} {z : Str} (k : R (.bl (if neg then !decide (a ∈ z.cps.toList) else decide (a ∈ z.cps.toList)))) : OD c (rInU c.K neg) (.str ⟨#[a]⟩) (.str z) R := fun B H x y lv hx hy Q q => by
  cases hx; cases hy
  exact .inl ⟨a, z, rfl, rfl, q _ H _ (Same.refl _) (.bl _) k⟩
/-- flat values, and == of them -/
def flatD : Dv → Bool
  | .non | .bl _ | .int _ | .str _ => true
  | _ => false
def eqD : Dv → Dv → Bool
  | .non, .non => true
  | .bl a, .bl b => a == b
  | .bl a, .int b => (if a then 1 else 0) == b
  | .int a, .bl b => a == (if b then 1 else 0)
  | .int a, .int b => a == b
  | .str a, .str b => a == b
  | _, _ => false
theorem flat_of {wd : Wd} {B : Addr → Prop} {K : PySem.W.Frag} {H : Hp} {v : V} {d : Dv} (h : Dt wd B K H v d) (f : flatD d = true) : flatV v = true := by cases h <;> first | rfl | simp [flatD] at f
theorem flatA_of {wd : Wd} {B : Addr → Prop} {K : PySem.W.Frag} {H : Hp} : ∀ {vs : List V} {ds : List Dv}, DtA wd B K H vs ds → ds.all flatD = true → vs.all flatV = true
  | _, _, .nil, _ => rfl
  | _, _, .cons a r, f => by
    simp only [List.all_cons, Bool.and_eq_true] at f ⊢
    exact ⟨flat_of a f.1, flatA_of r f.2⟩
theorem eq_of {wd : Wd} {B : Addr → Prop} {K : PySem.W.Frag} {H : Hp} {v u : V} {d e : Dv} (h : Dt wd B K H v d) (g : Dt wd B K H u e) (f : flatD d = true) (f' : flatD e = true) : eqV v u = eqD d e := by
  cases h <;> (try simp [flatD] at f) <;> cases g <;> first | rfl | simp [flatD] at f'
theorem inV_of {wd : Wd} {B : Addr → Prop} {K : PySem.W.Frag} {H : Hp} {v : V} {d : Dv} (h : Dt wd B K H v d) (f : flatD d = true) : ∀ {vs : List V} {ds : List Dv}, DtA wd B K H vs ds → ds.all flatD = true → inV v vs = ds.any fun e => eqD e d
  | _, _, .nil, _ => rfl
  | _, _, .cons a r, g => by
    simp only [List.all_cons, Bool.and_eq_true] at g
    have ih := inV_of h f r g.2
    unfold inV at ih ⊢
    rw [List.any_cons, List.any_cons, eq_of a h g.1 f, ih]
theorem od_inl {neg : Bool} {d : Dv} {ds : List Dv} (f : flatD d = true ∧ ds.all flatD = true) (k : R (.bl (if neg then !(ds.any fun e => eqD e d) else ds.any fun e => eqD e d))) : OD c (rInU c.K neg) d (.lst ds) R := fun B H x y lv hx hy Q q => by
  cases hy with
  | lst q2 d2 => exact .inr ⟨_, _, rfl, .inl q2.sq, flat_of hx f.1, flatA_of d2 f.2, q _ H _ (Same.refl _) (.bl _) (by rw [inV_of hx f.1 d2 f.2]; exact k)⟩
theorem od_int {neg : Bool} {d : Dv} {ds : List Dv} (f : flatD d = true ∧ ds.all flatD = true) (k : R (.bl (if neg then !(ds.any fun e => eqD e d) else ds.any fun e => eqD e d))) : OD c (rInU c.K neg) d (.tup ds) R := fun B H x y lv hx hy Q q => by
  cases hy with
  | tup q2 d2 => exact .inr ⟨_, _, rfl, .inr q2.sq, flat_of hx f.1, flatA_of d2 f.2, q _ H _ (Same.refl _) (.bl _) (by rw [inV_of hx f.1 d2 f.2]; exact k)⟩
/-! ### items and slices -/
theorem DtA.atI {wd : Wd} {B : Addr → Prop} {K : PySem.W.Frag} {H : Hp} {vs : List V} {ds : List Dv} {i : Int} {d : Dv} (h : DtA wd B K H vs ds) (e : L2.atI ds i = some d) : ∃ v, L2.atI vs i = some v ∧ Dt wd B K H v d := by
  unfold L2.atI at e ⊢
  rw [h.length]
  cases q : ixN ds.length i with
  | none => rw [q] at e; cases e
  | some j =>
    rw [q] at e
    exact h.get e
theorem od_ixl {ds : List Dv} {i : Int} {d : Dv} (e : L2.atI ds i = some d) (k : R d) : OD c (rIx c.K) (.lst ds) (.int i) R := fun B H x y lv hx hy Q q => by
  cases hy
  cases hx with
  | lst q1 d1 =>
    obtain ⟨v, h1, h2⟩ := d1.atI e
    exact .inl ⟨_, _, i, v, rfl, rfl, q1.sq, h1, q _ H _ (Same.refl _) h2 k⟩
theorem od_ixt {ds : List Dv} {i : Int} {d : Dv} (e : L2.atI ds i = some d) (k : R d) : OD c (rIx c.K) (.tup ds) (.int i) R := fun B H x y lv hx hy Q q => by
  cases hy
  cases hx with
  | tup q1 d1 =>
    obtain ⟨v, h1, h2⟩ := d1.atI e
    exact .inr (.inl ⟨_, _, i, v, rfl, rfl, q1.sq, h1, q _ H _ (Same.refl _) h2 k⟩)
theorem od_ixs {z : Str} {i : Int} {a : Nat} (l : z.length ≤ sizeLine) (e : L2.atI z.cps.toList i = some a) (k : R (.str ⟨#[a]⟩)) : OD c (rIx c.K) (.str z) (.int i) R := fun B H x y lv hx hy Q q => by
  cases hx; cases hy
  exact .inr (.inr ⟨z, i, a, rfl, rfl, l, e, q _ H _ (Same.refl _) (.str _) k⟩)
/-- a slice's parts -/
def PD (c : Cn) (t : TO) (n : Nat) (env : DL.Env) (S : Nat → Option Int → Prop) : Prop := ∀ B H σ, Rel c B n H σ env → ∀ Q : Option Int → Hp → Prop, (∀ o H' n', Rel c B n' H' σ env → Ext0 c.wd H H' → S n' o → Q o H') → t σ H Q
theorem pd_none {n : Nat} {env : DL.Env} {S : Nat → Option Int → Prop} (k : S n none) : PD c tNoPart n env S := fun B H σ r Q q => q none H n r (Ext0.refl _ _) k
theorem pd_some {n : Nat} {env : DL.Env} {te : TE} {S : Nat → Option Int → Prop} (h : ED c te n env fun n1 d => ∃ i, d = .int i ∧ S n1 (some i)) : PD c (tPart te) n env S := fun B H σ r Q q =>
  h B H σ r _ fun v H1 n1 d r1 e1 h1 ⟨i, e, k⟩ => by
    subst e
    cases h1
    exact ⟨i, rfl, q (some i) H1 n1 r1 e1 k⟩
/-- cut -/
def cutD (ds : List Dv) (lo hi : Option Int) : List Dv := (ds.drop (HT.sIx ds.length 0 lo)).take (HT.sIx ds.length ds.length hi - HT.sIx ds.length 0 lo)
theorem dta_drop {wd : Wd} {B : Addr → Prop} {K : PySem.W.Frag} {H : Hp} : ∀ {vs : List V} {ds : List Dv} (n : Nat), DtA wd B K H vs ds → DtA wd B K H (vs.drop n) (ds.drop n)
  | _, _, 0, h => h
  | _, _, _ + 1, .nil => .nil
  | _, _, n + 1, .cons _ r => dta_drop n r
theorem dta_take {wd : Wd} {B : Addr → Prop} {K : PySem.W.Frag} {H : Hp} : ∀ {vs : List V} {ds : List Dv} (n : Nat), DtA wd B K H vs ds → DtA wd B K H (vs.take n) (ds.take n)
  | _, _, 0, _ => .nil
  | _, _, _ + 1, .nil => .nil
  | _, _, n + 1, .cons a r => .cons a (dta_take n r)
theorem dta_cut {wd : Wd} {B : Addr → Prop} {K : PySem.W.Frag} {H : Hp} {vs : List V} {ds : List Dv} (h : DtA wd B K H vs ds) (lo hi : Option Int) : DtA wd B K H (cutV vs lo hi) (cutD ds lo hi) := by
  unfold cutV cutD
  rw [h.length]
  exact dta_take _ (dta_drop _ h)
/-- a slice of a tree -/
def SlD (d : Dv) (lo hi : Option Int) (R : Dv → Prop) : Prop := match d with
  | .lst ds => R (.lst (cutD ds lo hi))
  | .tup ds => R (.tup (cutD ds lo hi))
  | .str z => z.length ≤ sizeLine ∧ R (.str (cutS z lo hi))
  | .scr ns => R (.lst ((ns.drop (HT.sIx ns.length 0 lo)).take (HT.sIx ns.length ns.length hi - HT.sIx ns.length 0 lo) |>.map Dv.int))
  | _ => False
theorem dta_ints {wd : Wd} {B : Addr → Prop} {K : PySem.W.Frag} {H : Hp} : ∀ ns : List Int, DtA wd B K H (ns.map V.int) (ns.map Dv.int)
  | [] => .nil
  | n :: ns => .cons (.int n) (dta_ints ns)
theorem ed_sl {n : Nat} {env : DL.Env} {te : TE} {tl th : TO} {R : Nat → Dv → Prop} (h : ED c te n env fun n1 d => PD c tl n1 env fun n2 lo => PD c th n2 env fun n3 hi => SlD d lo hi (R n3)) : ED c (tSl (rSlU c.K) te tl th) n env R := fun B H σ r Q q =>
  h B H σ r _ fun v H1 n1 d r1 e1 h1 k1 => k1 B H1 σ r1 _ fun lo H2 n2 r2 e2 k2 => k2 B H2 σ r2 _ fun hi H3 n3 r3 e3 k3 => by
    have hv := r2.dt e3 (r1.dt e2 h1)
    have ee := (e1.trans e2).trans e3
    cases hv with
    | non => exact k3.elim
    | bl => exact k3.elim
    | int => exact k3.elim
    | str z => exact .inr (.inr ⟨z, rfl, k3.1, q _ H3 n3 _ r3 ee (.str _) k3.2⟩)
    | @tup ta txs tds q1 d1 =>
      refine .inr (.inl ⟨_, _, rfl, q1.sq, fun e => ?_, fun _ p hp => ?_⟩)
      · refine q _ H3 n3 _ r3 ee (.tup q1 ?_) k3
        have := dta_cut d1 lo hi
        have e' : cutV txs lo hi = txs := by unfold cutV; rw [e.1, e.2, List.drop_zero, Nat.sub_zero, List.take_length]
        rw [e'] at this
        exact this
      · exact q _ _ n3 _ (r3.same (same_new hp _)) (ee.trans (Ext0.same (same_new hp _))) (.tup (qt_new r3.live hp) (dta_same (same_new hp _) (dta_cut d1 lo hi))) k3
    | lst q1 d1 =>
      refine .inl ⟨_, _, rfl, q1.sq, fun p hp => ?_⟩
      exact q _ _ n3 _ (r3.same (same_new hp _)) (ee.trans (Ext0.same (same_new hp _))) (.lst (ql_new r3.live hp) (dta_same (same_new hp _) (dta_cut d1 lo hi))) k3
    | dic _ _ _ => exact k3.elim
    | ins _ _ _ => exact k3.elim
    | deck _ => exact k3.elim
    | @scr _ ns q1 =>
      refine .inl ⟨_, _, rfl, q1.sq, fun p hp => ?_⟩
      refine q _ _ n3 _ (r3.same (same_new hp _)) (ee.trans (Ext0.same (same_new hp _))) (.lst (ql_new r3.live hp) (dta_same (same_new hp _) ?_)) k3
      have e' : cutV (ns.map V.int) lo hi = ((ns.drop (HT.sIx ns.length 0 lo)).take (HT.sIx ns.length ns.length hi - HT.sIx ns.length 0 lo)).map V.int := by
        unfold cutV
        rw [List.length_map, ← List.map_drop, ← List.map_take]
      rw [e']
      exact dta_ints _
/-- xs[::-1] of a list -/
theorem dta_rev {wd : Wd} {B : Addr → Prop} {K : PySem.W.Frag} {H : Hp} : ∀ {vs : List V} {ds : List Dv}, DtA wd B K H vs ds → DtA wd B K H vs.reverse ds.reverse
  | _, _, .nil => .nil
  | _, _, .cons a r => by
    rw [List.reverse_cons, List.reverse_cons]
    exact (dta_rev r).append (.cons a .nil)
theorem ed_rev {n : Nat} {env : DL.Env} {te : TE} {R : Nat → Dv → Prop} (h : ED c te n env fun n1 d => ∃ ds, d = .lst ds ∧ R n1 (.lst ds.reverse)) : ED c (tRevL c.K te) n env R := fun B H σ r Q q =>
  h B H σ r _ fun v H1 n1 d r1 e1 h1 ⟨ds, e, k⟩ => by
    subst e
    cases h1 with
    | lst q1 d1 =>
      refine ⟨_, _, rfl, q1.sq, fun p hp => ?_⟩
      exact q _ _ n1 _ (r1.same (same_new hp _)) (e1.trans (Ext0.same (same_new hp _))) (.lst (ql_new r1.live hp) (dta_same (same_new hp _) (dta_rev d1))) k
/-! ### built-ins -/
/-- len -/
def lenD : Dv → Option Nat
  | .str x => if x.length ≤ sizeLine then some x.length else none
  | .tup ds => some ds.length
  | .lst ds => some ds.length
  | .scr ns => some ns.length
  | _ => none
theorem cd_len {d : Dv} {m : Nat} (e : lenD d = some m) (k : R (.int m)) : CD c (fun xs H Q => ∃ x n, xs = [x] ∧ LenV c.K x H n ∧ Q (.int n) H) [d] R := fun B H xs lv hx Q q => by
  cases hx with
  | cons a b =>
    cases b
    refine ⟨_, m, rfl, ?_, q _ H _ (Same.refl _) (.int _) k⟩
    cases a with
    | str x =>
      simp only [lenD] at e
      split at e
      · cases e; exact ⟨‹_›, rfl⟩
      · cases e
    | tup q1 d1 => cases e; exact .inr ⟨_, q1.sq, d1.length.symm⟩
    | lst q1 d1 => cases e; exact .inl ⟨_, QL.sq q1, d1.length.symm⟩
    | scr q1 => cases e; exact .inl ⟨_, q1.sq, by simp⟩
    | non => cases e
    | bl => cases e
    | int => cases e
    | dic _ _ _ => cases e
    | ins _ _ _ => cases e
    | deck _ => cases e
theorem cd_int {i : Int} (k : R (.int i)) : CD c (fun xs H Q => (∃ i, xs = [.int i] ∧ Q (.int i) H) ∨ ∃ k, xs = [.bl k] ∧ Q (.int (if k then 1 else 0)) H) [.int i] R := fun B H xs lv hx Q q => by
  cases hx with
  | cons a b =>
    cases a
    cases b
    exact .inl ⟨i, rfl, q _ H _ (Same.refl _) (.int _) k⟩
theorem cd_str {i : Int} (l : i.natAbs.log2 < 1920) (k : R (.str (toString i))) : CD c (fun xs H Q => ∃ i, xs = [.int i] ∧ i.natAbs.log2 < 1920 ∧ Q (.str (toString i)) H) [.int i] R := fun B H xs lv hx Q q => by
  cases hx with
  | cons a b =>
    cases a
    cases b
    exact ⟨i, rfl, l, q _ H _ (Same.refl _) (.str _) k⟩
def rListOf (K : PySem.W.Frag) : List V → Hp → VK → Prop := fun xs H Q => ∃ p ys, xs = [.ref p] ∧ (SqL K H p ys ∨ SqT K H p ys) ∧ ∀ l, H l = none → Q (.ref l) (upd H l (.lst ys))
def seqD : Dv → Option (List Dv)
  | .tup ds => some ds
  | .lst ds => some ds
  | _ => none
theorem cd_list {d : Dv} {ds : List Dv} (e : seqD d = some ds) (k : R (.lst ds)) : CD c (rListOf c.K) [d] R := fun B H xs lv hx Q q => by
  cases hx with
  | cons a b =>
    cases b
    cases a with
    | tup q1 d1 =>
      cases e
      refine ⟨_, _, rfl, .inr q1.sq, fun p hp => ?_⟩
      exact q _ _ _ (same_new hp _) (.lst (ql_new lv hp) (dta_same (same_new hp _) d1)) k
    | lst q1 d1 =>
      cases e
      refine ⟨_, _, rfl, .inl (QL.sq q1), fun p hp => ?_⟩
      exact q _ _ _ (same_new hp _) (.lst (ql_new lv hp) (dta_same (same_new hp _) d1)) k
    | _ => cases e
def rTupOf (K : PySem.W.Frag) : List V → Hp → VK → Prop := fun xs H Q => ∃ p ys, xs = [.ref p] ∧ ((SqL K H p ys ∧ ∀ l, H l = none → Q (.ref l) (upd H l (.tup ys))) ∨ (SqT K H p ys ∧ Q (.ref p) H))
theorem cd_tuple {d : Dv} {ds : List Dv} (e : seqD d = some ds) (k : R (.tup ds)) : CD c (rTupOf c.K) [d] R := fun B H xs lv hx Q q => by
  cases hx with
  | cons a b =>
    cases b
    cases a with
    | tup q1 d1 =>
      cases e
      exact ⟨_, _, rfl, .inr ⟨q1.sq, q _ H _ (Same.refl _) (.tup q1 d1) k⟩⟩
    | lst q1 d1 =>
      cases e
      refine ⟨_, _, rfl, .inl ⟨QL.sq q1, fun p hp => ?_⟩⟩
      exact q _ _ _ (same_new hp _) (.tup (qt_new lv hp) (dta_same (same_new hp _) d1)) k
    | _ => cases e
theorem dta_ints_back {wd : Wd} {B : Addr → Prop} {K : PySem.W.Frag} {H : Hp} : ∀ {vs : List V} {ns : List Int}, DtA wd B K H vs (ns.map Dv.int) → vs = ns.map V.int
  | _, [], .nil => rfl
  | _, n :: ns, .cons a r => by
    cases a
    rw [dta_ints_back r]
    rfl
theorem dta_strs_back {wd : Wd} {B : Addr → Prop} {K : PySem.W.Frag} {H : Hp} : ∀ {vs : List V} {ns : List Str}, DtA wd B K H vs (ns.map Dv.str) → vs = ns.map V.str
  | _, [], .nil => rfl
  | _, n :: ns, .cons a r => by
    cases a
    rw [dta_strs_back r]
    rfl
theorem dta_bls_back {wd : Wd} {B : Addr → Prop} {K : PySem.W.Frag} {H : Hp} : ∀ {vs : List V} {ns : List Bool}, DtA wd B K H vs (ns.map Dv.bl) → vs = ns.map V.bl
  | _, [], .nil => rfl
  | _, n :: ns, .cons a r => by
    cases a
    rw [dta_bls_back r]
    rfl
theorem dta_strs {wd : Wd} {B : Addr → Prop} {K : PySem.W.Frag} {H : Hp} : ∀ ns : List Str, DtA wd B K H (ns.map V.str) (ns.map Dv.str)
  | [] => .nil
  | n :: ns => .cons (.str n) (dta_strs ns)
theorem cd_sum {ns : List Int} (k : R (.int ns.sum)) : CD c (rSum c.K) [.lst (ns.map Dv.int)] R := fun B H xs lv hx Q q => by
  cases hx with
  | cons a b =>
    cases b
    cases a with
    | lst q1 d1 =>
      cases dta_ints_back d1
      exact ⟨_, ns, rfl, QL.sq q1, q _ H _ (Same.refl _) (.int _) k⟩
theorem cd_all {bs : List Bool} (k : R (.bl (bs.all id))) : CD c (rAll c.K) [.lst (bs.map Dv.bl)] R := fun B H xs lv hx Q q => by
  cases hx with
  | cons a b =>
    cases b
    cases a with
    | lst q1 d1 =>
      cases dta_bls_back d1
      exact ⟨_, bs, rfl, QL.sq q1, q _ H _ (Same.refl _) (.bl _) k⟩
theorem cd_sortedS {ss : List Str} (l : ss.length < 64) (k : ∀ ys : List Str, ys.Perm ss → PyProof.Rows.sortedS ys = true → R (.lst (ys.map Dv.str))) : CD c (rSortedS c.K) [.lst (ss.map Dv.str)] R := fun B H xs lv hx Q q => by
  cases hx with
  | cons a b =>
    cases b
    cases a with
    | lst q1 d1 =>
      cases dta_strs_back d1
      refine ⟨_, ss, rfl, QL.sq q1, l, fun ys p hp hs hn => ?_⟩
      exact q _ _ _ (same_new hn _) (.lst (ql_new lv hn) (dta_strs ys)) (k ys hp hs)
/-- repr -/
theorem cd_repr {d : Dv} (p : plain d = true) (hs : (py d).showable = true) (hd : (py d).depth ≤ 60) (hz : (py d).shown.length ≤ sizeLine) (k : R (.str (py d).shown)) : CD c (rRepr c.K) [d] R := fun B H xs lv hx Q q => by
  cases hx with
  | cons a b =>
    cases b
    exact ⟨c.wd, B, _, d, rfl, a, p, hs, hd, hz, q _ H _ (Same.refl _) (.str _) k⟩
/-- isinstance(x, T), T a built-in type -/
def tyD : Dv → Option String
  | .non => some "NoneType"
  | .bl _ => some "bool"
  | .int _ => some "int"
  | .str _ => some "str"
  | .tup _ => some "tuple"
  | .lst _ => some "list"
  | .dic _ => some "dict"
  | _ => none
theorem tyx_of {wd : Wd} {B : Addr → Prop} {K : PySem.W.Frag} {H : Hp} {v : V} {d : Dv} {T : String} (h : Dt wd B K H v d) (e : tyD d = some T) : TyX K H v (.type T) := by
  cases h with
  | non => cases e; exact .base .non
  | bl b => cases e; exact .base (.bl b)
  | int i => cases e; exact .base (.int i)
  | str x => cases e; exact .base (.str x)
  | tup q1 d1 =>
    cases e
    rcases q1 with ⟨_, q | ⟨o, q⟩⟩ | ⟨o, its, n, h1, h2, _⟩
    · exact .base (.tup q)
    · exact .fTuple q
    · exact .kTuple h1 h2
  | lst q1 d1 => cases e; exact .base (.lst q1.2)
  | dic _ q _ => cases e; exact .base (.dK q)
  | ins _ _ _ => cases e
  | deck _ => cases e
  | scr _ => cases e
theorem ed_isi {n : Nat} {env : DL.Env} {te : TE} {T : String} {R : Nat → Dv → Prop} (h : ED c te n env fun n1 d => ∃ a b, tyD d = some a ∧ kitB a T = some b ∧ R n1 (.bl b)) : ED c (tCB (rIsi c.K) (tCons te (tCons (tC (.ty T)) tNil))) n env R := fun B H σ r Q q =>
  h B H σ r _ fun v H1 n1 d r1 e1 h1 ⟨a, b, ha, hb, k⟩ => ⟨v, .ty T, .type a, .type T, b, rfl, .ty T, tyx_of h1 ha, kit_ty hb, q _ H1 n1 _ r1 e1 (.bl b) k⟩
/-- which values isinstance takes for T -/
def isK (T : String) : Dv → Bool
  | .bl _ => T == "bool" || T == "int"
  | .int _ => T == "int"
  | .str _ => T == "str"
  | .tup _ => T == "tuple"
  | .lst _ => T == "list"
  | .dic _ => T == "dict"
  | _ => false
def kn (a T : String) : Bool := a == T || (a == "bool" && T == "int")
theorem kn_all : ∀ a ∈ ["NoneType", "bool", "int", "str", "tuple", "list", "dict"], ∀ T ∈ ["bool", "int", "str", "tuple", "list", "dict"], kitB a T = some (kn a T) := by decide +kernel
theorem isK_kn {d : Dv} {a T : String} (ha : tyD d = some a) (hT : T ∈ ["bool", "int", "str", "tuple", "list", "dict"]) : isK T d = kn a T := by
  simp only [List.mem_cons, List.not_mem_nil, or_false] at hT
  cases d <;> simp only [tyD] at ha <;> (try cases ha) <;> rcases hT with rfl | rfl | rfl | rfl | rfl | rfl <;> rfl
theorem tyD_mem {d : Dv} {a : String} (ha : tyD d = some a) : a ∈ ["NoneType", "bool", "int", "str", "tuple", "list", "dict"] := by
  cases d <;> simp only [tyD] at ha <;> cases ha <;> simp
theorem kit_is {d : Dv} {a T : String} (ha : tyD d = some a) (hT : T ∈ ["bool", "int", "str", "tuple", "list", "dict"]) : kitB a T = some (isK T d) := by
  rw [isK_kn ha hT]
  exact kn_all a (tyD_mem ha) T hT
theorem ed_is {n : Nat} {env : DL.Env} {te : TE} {T : String} {R : Nat → Dv → Prop} (hT : T ∈ ["bool", "int", "str", "tuple", "list", "dict"]) (h : ED c te n env fun n1 d => (tyD d).isSome = true ∧ R n1 (.bl (isK T d))) : ED c (tCB (rIsi c.K) (tCons te (tCons (tC (.ty T)) tNil))) n env R :=
  ed_isi (ed_mono h fun n d ⟨h1, h2⟩ => by
    obtain ⟨a, ha⟩ := Option.isSome_iff_exists.mp h1
    exact ⟨a, _, ha, kit_is ha hT, h2⟩)
end
end DL

set_option Elab.async false
set_option linter.all false
set_option maxRecDepth 100000
set_option maxHeartbeats 2000000
/-! D7: defs by name, displays of dicts, parallel stores, join, chains. -/
namespace DL
open PySem PySem.Spec L2

/-! ### a def of the text, by its name -/
structure Df (P : Program) (w : World) (K : PySem.W.Frag) (mg : Str → Option Value) (base : Heap) (k : Nat) (x : Str) (ps : List Str) (C : Ct) (f : Addr) (fd : FuncData) : Prop where
  m : mg x = some (.ref f)
  kp : PySem.W.keepIn K (.ref f) = true
  b : Binds K fd ps []
  g : FnG P w K mg base CX0 k f fd ps (spD K C)
section
variable {X : Cx} {k : Nat} {f : Addr} {fd : FuncData} {ps ks : List Str} {C : Ct} {x : Str} {p pos : Pos} {e : Expr} {es : List Expr} {kws : List Keyword} {t tk : TA} {g : List Value → List Value → List Value} {gV : List V → List V → List V}
theorem pe_df (D : Df X.prog X.w X.K X.mg X.base k x ps C f fd) (hgd : X.A.guards = some []) (hr : Room k X.A) (hg : Gl X x) (ha : PA X (e :: es) t)
    (hdb : (x == ("__debug__" : Str)) = false := by decide) (he : starEach (e :: es) X.env = (false, eval e X.env) :: starEach es X.env := by rfl) (hpl : (backTo pos (starEach es X.env)).any (·.1) = false := by rfl) :
    PE X (.Call (.Name x p) (e :: es) [] pos) (tCall (spD X.K C) [] E0 t) := pe_cG D.g hgd hr hg D.m D.kp D.b pass0 ha hdb he hpl
theorem pe_df0 (D : Df X.prog X.w X.K X.mg X.base k x [] C f fd) (hgd : X.A.guards = some []) (hr : Room k X.A) (hg : Gl X x) (hdb : (x == ("__debug__" : Str)) = false := by decide) :
    PE X (.Call (.Name x p) [] [] pos) (tCall (spD X.K C) [] E0 tNil) := pe_cG0 D.g hgd hr hg D.m D.kp D.b pass0 hdb
theorem pe_dfK (D : Df X.prog X.w X.K X.mg X.base k x ps C f fd) (hb : KBinds X.K fd ps ks g gV) (hgd : X.A.guards = some []) (hr : Room k X.A) (hg : Gl X x) (ha : PA X (e :: es) t) (hkw : PK X kws tk)
    (hall : (backToKw pos (keywordEach kws X.env)).all (·.1.isSome) = true := by rfl) (hks : (backToKw pos (keywordEach kws X.env)).filterMap (·.1) = ks := by rfl)
    (hdb : (x == ("__debug__" : Str)) = false := by decide) (he : starEach (e :: es) X.env = (false, eval e X.env) :: starEach es X.env := by rfl)
    (hpl : ((backTo pos (starEach (e :: es) X.env)).any (·.1) || (backToKw pos (keywordEach kws X.env)).any (·.1.isNone)) = false := by rfl) :
    PE X (.Call (.Name x p) (e :: es) kws pos) (tCallK (spD X.K C) gV E0 t tk) := pe_cGK D.g hgd hr hg D.m D.kp hb pass0 ha hkw hall hks hdb he hpl
theorem pe_dfK0 (D : Df X.prog X.w X.K X.mg X.base k x ps C f fd) (hb : KBinds X.K fd ps ks g gV) (hgd : X.A.guards = some []) (hr : Room k X.A) (hg : Gl X x) (hkw : PK X kws tk)
    (hall : (backToKw pos (keywordEach kws X.env)).all (·.1.isSome) = true := by rfl) (hks : (backToKw pos (keywordEach kws X.env)).filterMap (·.1) = ks := by rfl)
    (hdb : (x == ("__debug__" : Str)) = false := by decide)
    (hpl : ((backTo pos (starEach [] X.env)).any (·.1) || (backToKw pos (keywordEach kws X.env)).any (·.1.isNone)) = false := by rfl) :
    PE X (.Call (.Name x p) [] kws pos) (tCallK (spD X.K C) gV E0 tNil tk) := pe_cGK0 D.g hgd hr hg D.m D.kp hb pass0 hkw hall hks hdb hpl
/-- what a keyword call asks of the def -/
theorem kbinds_of {K : PySem.W.Frag} {x qual : Str} {st : Stmt} {f : Addr} {fd : FuncData} (F : Fun K x qual st f fd)
    (h : ∀ (kV doc pm : Value) (an : Option Addr) (cdv ct : Value) (us ws : List Value), (g us ws).length = ps.length → bindArgs (PySem.W.fnOf x qual (defArgs st) (defBody st) (defScope st) .none kV doc pm an cdv ct) ⟨us, ks.zip ws⟩ = pure (ps.zip (g us ws)))
    (r : ∀ {vs : List V} {us : List Value} {zs : List V} {ws : List Value}, Vals vs us → Vals zs ws → Vals (gV vs zs) (g us ws)) : KBinds K fd ps ks g gV := by
  obtain ⟨oc, od, kV, doc, pm, an, cdv, ct, osl, rfl, lk, hcd⟩ := F.ex
  exact ⟨fun s us ws _ hl => .of_eq (h kV doc pm an cdv ct us ws hl), r⟩
end

/-! ### dicts that are displayed -/
section
variable {c : Cn} {n : Nat} {env : DL.Env} {N : DN} {te ta tb tc td ty : TE}
def keyD : Dv → Option Key
  | .int i => some (.inl i)
  | .str x => some (.inr x)
  | _ => none
/-- the pairs of a display -/
def PPD (c : Cn) (trs : List (TE × TE)) (n : Nat) (env : DL.Env) (R : Nat → List (Key × Dv) → Prop) : Prop := ∀ B H σ, Rel c B n H σ env → ∀ Q : List (V × V) → Hp → Prop,
  (∀ kvs H' n' es, Rel c B n' H' σ env → Ext0 c.wd H H' → DtK c.wd B c.K H' kvs es → R n' es → Q (kvs.map fun kv => (kV kv.1, kv.2)) H') → tPairs trs σ H Q
theorem ppd_nil {R : Nat → List (Key × Dv) → Prop} (k : R n []) : PPD c [] n env R := fun B H σ r Q q => q [] H n [] r (Ext0.refl _ _) .nil k
theorem Rel.dtk {B : Addr → Prop} {H H' : Hp} {σ : L2.St} (R : Rel c B n H σ env) (e : Ext0 c.wd H H') {v : List (Key × V)} {d : List (Key × Dv)} (h : DtK c.wd B c.K H v d) : DtK c.wd B c.K H' v d := DtK.move (R.keeps e) (fun _ z => .inl z) d v h
theorem ppd_cons {trs : List (TE × TE)} {R : Nat → List (Key × Dv) → Prop} (h : ED c ta n env fun n1 dk => ∃ k, keyD dk = some k ∧ ED c tb n1 env fun n2 d => PPD c trs n2 env fun n3 es => R n3 ((k, d) :: es)) : PPD c ((ta, tb) :: trs) n env R := fun B H σ r Q q =>
  h B H σ r _ fun v H1 n1 dk r1 e1 h1 ⟨k, hk, k1⟩ => k1 B H1 σ r1 _ fun u H2 n2 d r2 e2 h2 k2 => k2 B H2 σ r2 _ fun kvs H3 n3 es r3 e3 h3 k3 => by
    have hv : v = kV k := by cases h1 <;> simp only [keyD] at hk <;> cases hk <;> rfl
    subst hv
    exact q ((k, u) :: kvs) H3 n3 ((k, d) :: es) r3 ((e1.trans e2).trans e3) (.cons (r2.dt e3 h2) h3) k3
def putD (es : List (Key × Dv)) (k : Key) (v : Dv) : List (Key × Dv) :=
  if (es.any fun kv => decide (kv.1 = k)) = true then es.map (fun kv => if kv.1 = k then (kv.1, v) else kv) else es ++ [(k, v)]
def mergeD (es more : List (Key × Dv)) : List (Key × Dv) := more.foldl (fun acc kv => putD acc kv.1 kv.2) es
theorem DtK.any {wd : Wd} {B : Addr → Prop} {K : PySem.W.Frag} {H : Hp} (k : Key) : ∀ {vs : List (Key × V)} {ds : List (Key × Dv)}, DtK wd B K H vs ds → (vs.any fun kv => decide (kv.1 = k)) = ds.any fun kv => decide (kv.1 = k)
  | _, _, .nil => rfl
  | _, _, .cons _ r => by rw [List.any_cons, List.any_cons, DtK.any k r]
theorem DtK.append {wd : Wd} {B : Addr → Prop} {K : PySem.W.Frag} {H : Hp} : ∀ {vs us : List (Key × V)} {ds es : List (Key × Dv)}, DtK wd B K H vs ds → DtK wd B K H us es → DtK wd B K H (vs ++ us) (ds ++ es)
  | _, _, _, _, .nil, h => h
  | _, _, _, _, .cons a r, h => .cons a (r.append h)
theorem DtK.maps {wd : Wd} {B : Addr → Prop} {K : PySem.W.Frag} {H : Hp} {v : V} {d : Dv} (k : Key) (hd : Dt wd B K H v d) : ∀ {vs : List (Key × V)} {ds : List (Key × Dv)}, DtK wd B K H vs ds →
    DtK wd B K H (vs.map fun kv => if kv.1 = k then (kv.1, v) else kv) (ds.map fun kv => if kv.1 = k then (kv.1, d) else kv)
  | _, _, .nil => .nil
  | _, _, .cons (k := k') a r => by
    rw [List.map_cons, List.map_cons]
    by_cases e : k' = k
    · simp only [e, if_true]
      exact .cons hd (DtK.maps k hd r)
    · simp only [e, if_false]
      exact .cons a (DtK.maps k hd r)
theorem DtK.put {wd : Wd} {B : Addr → Prop} {K : PySem.W.Frag} {H : Hp} {v : V} {d : Dv} {vs : List (Key × V)} {ds : List (Key × Dv)} (h : DtK wd B K H vs ds) (k : Key) (hd : Dt wd B K H v d) : DtK wd B K H (putK vs k v) (putD ds k d) := by
  unfold putK putD
  rw [h.any k]
  split
  · exact h.maps k hd
  · exact h.append (.cons hd .nil)
theorem DtK.merge {wd : Wd} {B : Addr → Prop} {K : PySem.W.Frag} {H : Hp} : ∀ {us : List (Key × V)} {es : List (Key × Dv)} {vs : List (Key × V)} {ds : List (Key × Dv)}, DtK wd B K H us es → DtK wd B K H vs ds → DtK wd B K H (mergeK vs us) (mergeD ds es)
  | _, _, _, _, .nil, h => h
  | (k, v) :: us, (_, d) :: es, vs, ds, .cons a r, h => by
    show DtK wd B K H (mergeK (putK vs k v) us) (mergeD (putD ds k d) es)
    exact DtK.merge r (h.put k a)
theorem DtK.length {wd : Wd} {B : Addr → Prop} {K : PySem.W.Frag} {H : Hp} : ∀ {vs : List (Key × V)} {ds : List (Key × Dv)}, DtK wd B K H vs ds → vs.length = ds.length
  | _, _, .nil => rfl
  | _, _, .cons _ r => congrArg Nat.succ r.length
theorem ed_disp {trs : List (TE × TE)} {R : Nat → Dv → Prop} (h : PPD c trs n env fun n1 es => es.length ≤ 15 ∧ R n1 (.dic (mergeD [] es))) : ED c (tDisp trs) n env R := fun B H σ r Q q p hp => by
  have nD : ¬ B p := r.new hp
  have nk : ¬ Dk c.wd p := fun z => nD (r.dk p z)
  refine h (fun a => B a ∨ a = p) _ σ (r.more hp (.dK [])) _ fun kvs H2 n2 es r2 e2 h2 ⟨l, k⟩ => ?_
  have hp2 : H2 p = some (.dK []) := e2 p _ upd_same nk
  refine ⟨hp2, kvs, rfl, by rw [h2.length]; exact l, ?_⟩
  have noOwn : ∀ (i : Nat) (o : Ob), env[i]? = some (some (.own o)) → σ[i]? ≠ some (some (.ref p)) := fun i o hi hs => by
    obtain ⟨a, e, b, _⟩ := r.own i o hi
    rw [e] at hs
    cases hs
    exact nD b
  have r3 := r2.turnP (.inr rfl) nk (r.newHe hp) noOwn (.dK (mergeK [] kvs))
  have keepB : ∀ a o, H2 a = some o → ¬ (B a ∨ a = p) → upd H2 p (.dK (mergeK [] kvs)) a = some o := fun a o q z => by
    rw [upd_ne (show a ≠ p from fun w => z (.inr w))]
    exact q
  have rF : Rel c B n2 (upd H2 p (.dK (mergeK [] kvs))) σ env := r3.fewer (fun a z => .inl z) r.dk fun i o a hi hs => by
    obtain ⟨a', e, b, _⟩ := r.own i o hi
    rw [e] at hs
    cases hs
    exact b
  refine q _ _ n2 _ rF (fun a o qa z => ?_) (.dic nD upd_same ?_) k
  · have na : a ≠ p := fun w => by rw [w, hp] at qa; cases qa
    rw [upd_ne na]
    exact e2 a o (by rw [upd_ne na]; exact qa) z
  · exact DtK.merge (DtK.move keepB (fun a z => .inl (.inl z)) _ _ h2) .nil
/-- d[k] -/
def lkD (es : List (Key × Dv)) (k : Key) : Option Dv := (es.find? fun kv => decide (kv.1 = k)).map (·.2)
theorem DtK.lk {wd : Wd} {B : Addr → Prop} {K : PySem.W.Frag} {H : Hp} (k : Key) : ∀ {vs : List (Key × V)} {ds : List (Key × Dv)} {d : Dv}, DtK wd B K H vs ds → lkD ds k = some d → ∃ v, valV vs k = some v ∧ Dt wd B K H v d
  | _, _, _, .nil, h => by simp [lkD] at h
  | _, _, d, .cons (k := k') (v := v') a r, h => by
    unfold lkD at h
    unfold valV
    rw [List.find?_cons] at h ⊢
    by_cases e : k' = k
    · simp only [e, decide_true] at h ⊢
      cases h
      exact ⟨_, rfl, a⟩
    · simp only [e, decide_false] at h ⊢
      exact DtK.lk k r h
theorem ed_dget {R : Nat → Dv → Prop} (h : ED c td n env fun n1 d => ED c ty n1 env fun n2 dk => ∃ es k v, d = .dic es ∧ keyD dk = some k ∧ lkD es k = some v ∧ R n2 v) : ED c (tDGet td ty) n env R := fun B H σ r Q q =>
  h B H σ r _ fun v H1 n1 d r1 e1 h1 k1 => k1 B H1 σ r1 _ fun u H2 n2 dk r2 e2 h2 ⟨es, k, w, ed, hk, hl, k2⟩ => by
    subst ed
    have hv := r1.dt e2 h1
    have hu : u = kV k := by cases h2 <;> simp only [keyD] at hk <;> cases hk <;> rfl
    subst hu
    cases hv with
    | dic nb ha hd =>
      obtain ⟨x, hx, hxd⟩ := hd.lk k hl
      exact ⟨_, x, rfl, .inl ⟨_, k, .inl ha, rfl, hx.symm⟩, q x H2 n2 w r2 (e1.trans e2) hxd k2⟩
/-! ### parallel stores -/
theorem sd_par {i j : Nat} {t : TA} (h : AD c t n env fun n1 ds => ∃ d e, ds = [d, e] ∧ N.nx n1 ((env.set i (some (.fz d))).set j (some (.fz e)))) : SD c (tPar i j t) n env N := fun B H σ b r D l =>
  h B H σ r _ fun vs H1 n1 ds r1 e1 h1 ⟨d, e, ed, k⟩ => by
    subst ed
    cases h1 with
    | cons a r =>
      cases r with
      | cons a2 r =>
        cases r
        exact ⟨_, _, rfl, l.nx B H1 _ n1 _ (Step.ext ‹_› e1) b ((r1.set i a).set j a2) k⟩
theorem sd_par3 {i j m : Nat} {t : TA} (h : AD c t n env fun n1 ds => ∃ d e f, ds = [d, e, f] ∧ N.nx n1 (((env.set i (some (.fz d))).set j (some (.fz e))).set m (some (.fz f)))) : SD c (tPar3 i j m t) n env N := fun B H σ b r D l =>
  h B H σ r _ fun vs H1 n1 ds r1 e1 h1 ⟨d, e, f, ed, k⟩ => by
    subst ed
    cases h1 with
    | cons a r =>
      cases r with
      | cons a2 r =>
        cases r with
        | cons a3 r =>
          cases r
          exact ⟨_, _, _, rfl, l.nx B H1 _ n1 _ (Step.ext ‹_› e1) b (((r1.set i a).set j a2).set m a3) k⟩
/-! ### join, chains -/
def rJoin (K : PySem.W.Frag) : V → List V → Hp → VK → Prop := fun x xs H Q => ∃ a p, ∃ ys : List Str, x = .str a ∧ xs = [.ref p] ∧ (SqL K H p (ys.map V.str) ∨ SqT K H p (ys.map V.str)) ∧ (ys.map (·.length)).sum + ys.length * a.length ≤ 16777216 ∧ Q (.str (Txt.join a ys)) H
theorem ed_join {R : Nat → Dv → Prop} (h : ED c ta n env fun n1 d => ∃ a, d = .str a ∧ ED c tb n1 env fun n2 e => ∃ ys, seqD e = some (ys.map Dv.str) ∧ (ys.map (·.length)).sum + ys.length * a.length ≤ 16777216 ∧ R n2 (.str (Txt.join a ys))) : ED c (tM1 (rJoin c.K) ta tb) n env R := fun B H σ r Q q =>
  h B H σ r _ fun v H1 n1 d r1 e1 h1 ⟨a, ed, k1⟩ => by
    subst ed
    cases h1
    refine ⟨⟨a, rfl⟩, k1 B H1 σ r1 _ fun u H2 n2 e r2 e2 h2 ⟨ys, es, l, k2⟩ => ?_⟩
    have fin := q _ H2 n2 _ r2 (e1.trans e2) (.str (Txt.join a ys)) k2
    cases h2 with
    | tup q1 d1 =>
      cases es
      cases dta_strs_back d1
      exact ⟨a, _, ys, rfl, rfl, .inr q1.sq, l, fin⟩
    | lst q1 d1 =>
      cases es
      cases dta_strs_back d1
      exact ⟨a, _, ys, rfl, rfl, .inl (QL.sq q1), l, fin⟩
    | _ => cases es
theorem ed_chain {r r' : R2} {R : Nat → Dv → Prop} (h : ED c ta n env fun n1 d1 => ED c tb n1 env fun n2 d2 => OD c r d1 d2 fun z => isBl (fun n2 b => if b = true then ED c tc n2 env fun n3 d3 => OD c r' d2 d3 (R n3) else R n2 (.bl false)) n2 z) : ED c (tChain r r' ta tb tc) n env R := fun B H σ rl Q q =>
  h B H σ rl _ fun v H1 n1 d1 r1 e1 h1 k1 => k1 B H1 σ r1 _ fun u H2 n2 d2 r2 e2 h2 k2 => k2 B H2 v u r2.live (r1.dt e2 h1) h2 _ fun z H3 d s3 h3 k3 => by
    cases d <;> try exact k3.elim
    rename_i b
    cases h3
    refine ⟨b, rfl, ?_⟩
    have ee := (e1.trans e2).trans (Ext0.same (wd := c.wd) s3)
    cases b with
    | true =>
      refine iteT ((show ED c tc n2 env _ from k3) B H3 σ (r2.same s3) _ fun w H4 n4 d4 r4 e4 h4 k4 => ?_)
      exact k4 B H4 u w r4.live ((r2.same s3).dt e4 (dt_same s3 h2)) h4 Q fun z H5 d s5 h5 k5 => q z H5 n4 d (r4.same s5) ((ee.trans e4).trans (Ext0.same s5)) h5 k5
    | false => exact iteF (q _ H3 n2 _ (r2.same s3) ee (.bl false) k3)
theorem tTest_ed {t : TE} {R : Nat → Bool → Prop} (h : ED c t n env fun n1 d => isBl R n1 d) : TD c (tTest t) n env R := td_tst h
end
end DL

set_option Elab.async false
set_option linter.all false
set_option maxRecDepth 100000
set_option maxHeartbeats 2000000
/-! D8: small words for walking trees. -/
namespace DL
open PySem PySem.Spec L2
section
variable {c : Cn} {R : Dv → Prop}
/-- the sign x stands in z -/
def hs (x z : Str) : Bool := decide (x.cps.toList.headD 0 ∈ z.cps.toList)
theorem one_sign {x : Str} (e : x.cps.toList.length = 1) : x = ⟨#[x.cps.toList.headD 0]⟩ := by
  obtain ⟨l⟩ := x
  obtain ⟨l⟩ := l
  match l, e with
  | [a], _ => rfl
theorem od_in1 {neg : Bool} {x z : Str} (e : x.cps.toList.length = 1) (k : R (.bl (if neg then !hs x z else hs x z))) : OD c (rInU c.K neg) (.str x) (.str z) R := by
  unfold hs at k
  have h := od_ins (c := c) (R := R) (neg := neg) (a := x.cps.toList.headD 0) (z := z) k
  rw [← one_sign e] at h
  exact h
/-- == of scalars, of trees -/
def rEqU (K : PySem.W.Frag) (neg : Bool) : R2 := fun x y H Q => (scal x y = true ∧ Q (.bl (if neg then !decide (x = y) else decide (x = y))) H) ∨ rEqT K neg x y H Q
theorem op_eqU {X : Cx} (hu : X.A.units + 64 < cLine) : OpR X (compareOp .Eq) (rEqU X.K false) := OpR.or op_eq (op_eqT hu)
theorem op_neU {X : Cx} (hu : X.A.units + 64 < cLine) : OpR X (compareOp .NotEq) (rEqU X.K true) := OpR.or op_ne (op_neT hu)
theorem dec_iff {p q : Prop} [Decidable p] [Decidable q] (h : p ↔ q) : decide p = decide q := by
  by_cases hp : p
  · rw [decide_eq_true hp, decide_eq_true (h.mp hp)]
  · rw [decide_eq_false hp, decide_eq_false fun z => hp (h.mpr z)]
theorem od_eqs {neg : Bool} {a b : Str} (k : R (.bl (if neg then !decide (a = b) else decide (a = b)))) : OD c (rEqU c.K neg) (.str a) (.str b) R := fun B H x y lv hx hy Q q => by
  cases hx; cases hy
  have e : decide (V.str a = V.str b) = decide (a = b) := dec_iff ⟨V.str.inj, congrArg _⟩
  exact .inl ⟨rfl, by rw [e]; exact q _ H _ (Same.refl _) (.bl _) k⟩
theorem od_eqi {neg : Bool} {a b : Int} (k : R (.bl (if neg then !decide (a = b) else decide (a = b)))) : OD c (rEqU c.K neg) (.int a) (.int b) R := fun B H x y lv hx hy Q q => by
  cases hx; cases hy
  have e : decide (V.int a = V.int b) = decide (a = b) := dec_iff ⟨V.int.inj, congrArg _⟩
  exact .inl ⟨rfl, by rw [e]; exact q _ H _ (Same.refl _) (.bl _) k⟩
theorem od_eqb {neg : Bool} {a b : Bool} (k : R (.bl (if neg then !decide (a = b) else decide (a = b)))) : OD c (rEqU c.K neg) (.bl a) (.bl b) R := fun B H x y lv hx hy Q q => by
  cases hx; cases hy
  have e : decide (V.bl a = V.bl b) = decide (a = b) := dec_iff ⟨V.bl.inj, congrArg _⟩
  exact .inl ⟨rfl, by rw [e]; exact q _ H _ (Same.refl _) (.bl _) k⟩
theorem od_eqT {neg : Bool} {d e : Dv} (p : plain d = true ∧ plain e = true ∧ SeqAt.shaped (py d) = true ∧ SeqAt.shaped (py e) = true) (k : R (.bl (if neg then !PyData.eqv (py d) (py e) else PyData.eqv (py d) (py e)))) : OD c (rEqU c.K neg) d e R := fun B H x y lv hx hy Q q =>
  .inr (od_eq p k B H x y lv hx hy Q q)
theorem od_is {x z : Str} (e : x.cps.toList.length = 1) (k : R (.bl (hs x z))) : OD c (rInU c.K false) (.str x) (.str z) R := od_in1 e k
theorem od_nis {x z : Str} (e : x.cps.toList.length = 1) (k : R (.bl (!hs x z))) : OD c (rInU c.K true) (.str x) (.str z) R := od_in1 e k
theorem oe_s {a b : Str} (k : R (.bl (decide (a = b)))) : OD c (rEqU c.K false) (.str a) (.str b) R := od_eqs k
theorem oe_i {a b : Int} (k : R (.bl (decide (a = b)))) : OD c (rEqU c.K false) (.int a) (.int b) R := od_eqi k
theorem oe_b {a b : Bool} (k : R (.bl (decide (a = b)))) : OD c (rEqU c.K false) (.bl a) (.bl b) R := od_eqb k
theorem on_s {a b : Str} (k : R (.bl (!decide (a = b)))) : OD c (rEqU c.K true) (.str a) (.str b) R := od_eqs k
theorem on_i {a b : Int} (k : R (.bl (!decide (a = b)))) : OD c (rEqU c.K true) (.int a) (.int b) R := od_eqi k
theorem on_b {a b : Bool} (k : R (.bl (!decide (a = b)))) : OD c (rEqU c.K true) (.bl a) (.bl b) R := od_eqb k
theorem oe_t {d e : Dv} (p : plain d = true ∧ plain e = true ∧ SeqAt.shaped (py d) = true ∧ SeqAt.shaped (py e) = true) (k : R (.bl (PyData.eqv (py d) (py e)))) : OD c (rEqU c.K false) d e R := od_eqT p k
theorem on_t {d e : Dv} (p : plain d = true ∧ plain e = true ∧ SeqAt.shaped (py d) = true ∧ SeqAt.shaped (py e) = true) (k : R (.bl (!PyData.eqv (py d) (py e)))) : OD c (rEqU c.K true) d e R := od_eqT p k
theorem oi_l {d : Dv} {ds : List Dv} (f : flatD d = true ∧ ds.all flatD = true) (k : R (.bl (ds.any fun e => eqD e d))) : OD c (rInU c.K false) d (.lst ds) R := od_inl f k
theorem oi_t {d : Dv} {ds : List Dv} (f : flatD d = true ∧ ds.all flatD = true) (k : R (.bl (ds.any fun e => eqD e d))) : OD c (rInU c.K false) d (.tup ds) R := od_int f k
theorem ni_l {d : Dv} {ds : List Dv} (f : flatD d = true ∧ ds.all flatD = true) (k : R (.bl (!ds.any fun e => eqD e d))) : OD c (rInU c.K true) d (.lst ds) R := od_inl f k
theorem ni_t {d : Dv} {ds : List Dv} (f : flatD d = true ∧ ds.all flatD = true) (k : R (.bl (!ds.any fun e => eqD e d))) : OD c (rInU c.K true) d (.tup ds) R := od_int f k
theorem isBl_mk {F : Nat → Bool → Prop} {n : Nat} {b : Bool} (h : F n b) : isBl F n (.bl b) := h
theorem sz_ok {n : Nat} {A : Prop} (h : n ≤ 100000) (k : A) : n ≤ sizeLine ∧ A := ⟨Nat.le_trans h (by decide), k⟩
theorem dite2 {b : Bool} {A B : Prop} (h1 : b = true → A) (h2 : b = false → B) : if b = true then A else B := by
  cases b with
  | true => exact iteT (h1 rfl)
  | false => exact iteF (h2 rfl)
end
end DL

set_option Elab.async false
set_option linter.all false
set_option maxRecDepth 100000
set_option maxHeartbeats 2000000
/-! D10: x[::-1] of lists, tuples, texts. -/
namespace PySem.DR
open PySem PySem.W PyProof.Rows PySem.Calls PySem.Spec L2 HT
section
variable {prog : Program} {w : World} {A : Around} {E : Value → Shared → Prop} {s : Shared}
theorem applied_rev {sl : Addr} {vs : Value} {n : Nat} {Q : Int × Int × Nat → Shared → Prop} (hs : s.heap.IsSliceOf sl .none .none vs) (ps : IsPart vs (some (-1))) (h : Q ((n : Int) - 1, -1, n) s) :
    wpAny (model prog w) A (Builtin.Slice.sliceApplied (.ref sl) (pure (n : Int))) Q E s := by
  obtain ⟨os, hos, hcs, hds⟩ := id hs
  unfold Builtin.Slice.sliceApplied Builtin.Slice.sliceFields
  refine wpAny_bind (wpAny_bind (wpAny_field hos hds (x := .none) rfl (wpAny_bind (wpAny_field hos hds (x := .none) rfl (wpAny_bind (wpAny_field hos hds (x := vs) rfl (wpAny_pure ?_)))))))
  refine wpAny_bind (slicePart_ ps ?_)
  show wpAny _ _ (if ((-1 : Int) == 0) = true then _ else _) _ _ s
  rw [if_neg (by decide)]
  refine wpAny_bind (slicePart_none (wpAny_bind (slicePart_none (wpAny_bind (wpAny_pure ?_)))))
  show wpAny _ _ (pure ((n : Int) - 1, (-1 : Int), Builtin.Slice.slicePlaces ((n : Int) - 1) (-1) (-1))) _ _ s
  have e : Builtin.Slice.slicePlaces ((n : Int) - 1) (-1) (-1) = n := by
    unfold Builtin.Slice.slicePlaces
    have h1 : ¬ ((-1 : Int) > 0) := by decide
    have h2 : (- -1 : Int) = 1 := by decide
    simp only [h1, if_false, h2, Int.ediv_one]
    split <;> omega
  rw [e]
  exact wpAny_pure h
theorem pick_rev (xs : Array Value) : ((List.range xs.size).filterMap fun (k : Nat) => xs[(((xs.size : Int) - 1) + (k : Int) * -1).toNat]?) = xs.toList.reverse := by
  have e : (List.range xs.size).filterMap (fun (k : Nat) => xs[(((xs.size : Int) - 1) + (k : Int) * -1).toNat]?) = ((List.range xs.size).map (fun k => xs.size - 1 - k)).filterMap (xs[·]?) := by
    rw [List.filterMap_map]
    have aux : ∀ l : List Nat, (∀ k ∈ l, k < xs.size) → l.filterMap (fun (k : Nat) => xs[(((xs.size : Int) - 1) + (k : Int) * -1).toNat]?) = l.filterMap ((fun x => xs[x]?) ∘ fun k => xs.size - 1 - k) := fun l => by
      induction l with
      | nil => intro _; rfl
      | cons k r ih =>
        intro hl
        have hk : (((xs.size : Int) - 1) + (k : Int) * -1).toNat = xs.size - 1 - k := by have := hl k (by simp); omega
        rw [List.filterMap_cons, List.filterMap_cons, hk, ih fun j hj => hl j (by simp [hj])]
        rfl
    exact aux _ fun k hk => List.mem_range.mp hk
  rw [e, krv_range, List.filterMap_reverse, krv_all]
theorem getItem_tuple_rev {t sl : Addr} {items : Array Value} {vs : Value} {Q : Value → Shared → Prop} (ht : IsTup s.heap t items) (hs : s.heap.IsSliceOf sl .none .none vs) (ps : IsPart vs (some (-1)))
    (h : Q (.ref s.heap.objs.size) { s with heap := s.heap.push { cls := .type "tuple", data := .seq items.toList.reverse.toArray } }) (hsz : items.size ≤ sizeLine) : wpAny (model prog w) A (getItem (.ref t) (.ref sl)) Q E s := by
  have hok : sizeOk (.seq items.toList.reverse.toArray) := by
    show items.toList.reverse.toArray.size ≤ sizeLine
    rw [List.size_toArray, List.length_reverse, Array.length_toList]
    exact hsz
  obtain ⟨os, hos, hcs, hds⟩ := id hs
  have hTs : s.TypeIs (.ref sl) "slice" := ⟨os, hos, hcs⟩
  unfold getItem
  try with_reducible refine wpAny_holding ?_
  first | refine wpAny_bind (wpAny_pure ?_) | skip
  refine wpAny_bind (wpAny_sequenceKey ht.typeIs (by decide) ?_)
  refine wpAny_bind (wpAny_callSpecial?_slot (name := Str.ofString "__getitem__") ht.typeIs PyProof.Rows.slot_tuple_getitem
    (wpAny_call_entry PyProof.Rows.slot_tuple_getitem ht.typeIs entry_tuple_getitem ?_ (args_tuple_getitem _ _)))
  show wpAny _ _ (Builtin.Tuple.tupleItemsOf (.ref t) >>= _) _ _ s
  refine wpAny_bind (tupleItemsOf_ ht ?_)
  refine wpAny_bind (wpAny_typeOf hTs ?_)
  rw [if_pos (by decide)]
  refine wpAny_bind (applied_rev hs ps ?_)
  show wpAny _ _ (if (((items.size : Int) - 1) == 0 && (-1 : Int) == 1 && items.size == items.size) = true then _ else _) _ _ s
  rw [if_neg (by simp), pick_rev]
  exact wpAny_bind (m := Builtin.Tuple.tupleExact _) (wpAny_newObj_type (wpAny_pure ⟨_, rfl, wpAny_pure h⟩) hok)
end
end PySem.DR
namespace DL
open PySem PySem.Spec PyProof.Rows L2
section
variable {X : Cx}
/-- a text from behind -/
def revS (z : Str) : Str := ⟨z.cps.toList.reverse.toArray⟩
theorem revS_length (z : Str) : (revS z).length = z.length := by
  show z.cps.toList.reverse.toArray.size = z.cps.size
  rw [List.size_toArray, List.length_reverse, Array.length_toList]
def tRevA (K : PySem.W.Frag) (te : TE) : TE := fun σ H Q => te σ H fun x H1 =>
  (∃ a xs, x = .ref a ∧ SqL K H1 a xs ∧ ∀ p, H1 p = none → Q (.ref p) (upd H1 p (.lst xs.reverse))) ∨ (∃ a xs, x = .ref a ∧ SqT K H1 a xs ∧ ∀ p, H1 p = none → Q (.ref p) (upd H1 p (.tup xs.reverse))) ∨
  ∃ z, x = .str z ∧ z.length ≤ sizeLine ∧ Q (.str (revS z)) H1
theorem picked_rev (x : Str) (u : Tok) : ((slicePicked x none none (some (-1, u))).filterMap (x.cps[·]?)).toArray = x.cps.toList.reverse.toArray := by
  have e : slicePicked x none none (some (-1, u)) = sliceRange ((x.cps.size : Int) - 1) (-1) (-1) := rfl
  rw [e, PySem.W.krv_sliceRange, PySem.W.krv_range, List.filterMap_reverse, PySem.W.krv_all]
theorem pe_revA {e : Expr} {te : TE} {k : Nat} {p1 p2 p3 pos : Pos} (he : PE X e te) : PE X (.Subscript e (.Slice none none (some (.UnaryOp .USub (.Constant (.int 1) k p1) p2)) p3) pos) (tRevA X.K te) := by
  refine ⟨fun pins s σ H Q I h => ?_⟩
  refine Subscript_ (thn (he.run pins s σ H _ I h) fun v s1 ⟨x, H1, I1, r1, q1⟩ => ?_)
  have hst : PO X (some (.UnaryOp .USub (.Constant (.int 1) k p1) p2)) (tPart (tUn (rU fun i => .int (-i)) (tC (.int 1)))) := po_some (pe_un un_neg pe_int)
  refine wpAny_Slice (thn (po_none.run pins s1 σ H1 (fun o H2 => o = none ∧ H2 = H1) I1 ⟨rfl, rfl⟩) fun vl s2 ⟨l, H2, I2, pl, el, e2⟩ => ?_)
  subst el e2
  refine thn (po_none.run pins s2 σ H2 (fun o H3 => o = none ∧ H3 = H2) I2 ⟨rfl, rfl⟩) fun vu s3 ⟨u, H3, I3, pu, eu, e3⟩ => ?_
  subst eu e3
  refine thn (hst.run pins s3 σ H3 (fun o H4 => o = some (-1) ∧ H4 = H3) I3 ⟨1, rfl, -1, rfl, rfl, rfl⟩) fun vs s4 ⟨o, H4, I4, ps, eo, e4⟩ => ?_
  subst eo e4
  cases pl
  cases pu
  have I5 : Inv X pins σ H4 { s4 with heap := s4.heap.push { cls := .type "slice", data := .fields #[.none, .none, vs] } } := I4.kept (t' := s4.toks) fun b ob q => Heap.get?_push_of_some _ q
  show wpAny (model X.prog X.w) X.A (subscriptTail e (.Slice none none (some (.UnaryOp .USub (.Constant (.int 1) k p1) p2)) p3) v (.ref s4.heap.objs.size)) (EP X pins σ Q) X.xe { s4 with heap := s4.heap.push { cls := .type "slice", data := .fields #[.none, .none, vs] } }
  rcases q1 with ⟨a, xs, ex, hx, q⟩ | ⟨a, xs, ex, hx, q⟩ | ⟨z, ex, hz, q⟩
  · subst ex
    cases r1
    obtain ⟨its, r, ht, hz⟩ := I5.list hx
    have hlen := r.length
    refine tail_any (ops := [.ref a, .ref s4.heap.objs.size]) ht.isList.typeIs (PySem.slot_list_getitem.lookup) ?_ (by with_unfolding_all rfl)
    refine wpAny_getItem_list_slice ht.isList (Heap.IsSliceOf.new _ .none .none vs) .none .none ps (by decide) ?_ (by rw [List.size_toArray]; omega)
    rw [PySem.W.krv_pick]
    refine ⟨.ref _, _, I5.laid (t' := s4.toks) (o := .lst xs.reverse) (fun b ob q => Heap.get?_push_of_some _ q) (Nat.le_refl _) ?_, rfl, q _ (I5.hok.fresh (Nat.le_refl _))⟩
    exact ⟨by rw [List.length_reverse]; exact hz, _, 0, r.reverse, Heap.get?_push_size _ rfl⟩
  · subst ex
    cases r1
    obtain ⟨its, r, ht, hz⟩ := I5.tuple hx
    have hlen := r.length
    refine tail_any (ops := [.ref a, .ref s4.heap.objs.size]) ht.typeIs (PyProof.Rows.slot_tuple_getitem.lookup) ?_ (by with_unfolding_all rfl)
    refine PySem.DR.getItem_tuple_rev ht (Heap.IsSliceOf.new _ .none .none vs) ps ?_ (by rw [List.size_toArray]; omega)
    refine ⟨.ref _, _, I5.laid (t' := s4.toks) (o := .tup xs.reverse) (fun b ob q => Heap.get?_push_of_some _ q) (Nat.le_refl _) ?_, rfl, q _ (I5.hok.fresh (Nat.le_refl _))⟩
    exact ⟨by rw [List.length_reverse]; exact hz, its.reverse, r.reverse, ⟨_, Heap.get?_push_size _ rfl, rfl, _, rfl⟩⟩
  · subst ex
    obtain ⟨t, rfl⟩ := r1
    cases ps with
    | int i u =>
      refine tail_any (ops := [.str z t, .ref s4.heap.objs.size]) (typeIs_str _ z t) (F.slot_str_getitem.lookup) ?_ (by with_unfolding_all rfl)
      refine wpAny_getItem_str_slice (l := none) (u := none) (st := some (-1, u)) ⟨_, Heap.get?_push_size _ rfl, rfl, rfl⟩ rfl ?_
      have e : sliceMade z t none none (some (-1, u)) = .str (revS z) := by
        unfold sliceMade
        rw [if_neg (by simp), picked_rev]
        rfl
      rw [e]
      exact ⟨by rw [revS_length]; exact hz, .str (revS z), H4, I5.tok _, ⟨_, rfl⟩, q⟩
end
section
variable {c : Cn} {n : Nat} {env : DL.Env} {te : TE} {R : Nat → Dv → Prop}
def revD (d : Dv) (R : Dv → Prop) : Prop := match d with
  | .lst ds => R (.lst ds.reverse)
  | .tup ds => R (.tup ds.reverse)
  | .str z => z.length ≤ sizeLine ∧ R (.str (revS z))
  | _ => False
theorem ed_revA (h : ED c te n env fun n1 d => revD d (R n1)) : ED c (tRevA c.K te) n env R := fun B H σ r Q q =>
  h B H σ r _ fun v H1 n1 d r1 e1 h1 k => by
    cases h1 with
    | lst q1 d1 => exact .inl ⟨_, _, rfl, QL.sq q1, fun p hp => q _ _ n1 _ (r1.same (same_new hp _)) (e1.trans (Ext0.same (same_new hp _))) (.lst (ql_new r1.live hp) (dta_same (same_new hp _) (dta_rev d1))) k⟩
    | tup q1 d1 => exact .inr (.inl ⟨_, _, rfl, q1.sq, fun p hp => q _ _ n1 _ (r1.same (same_new hp _)) (e1.trans (Ext0.same (same_new hp _))) (.tup (qt_new r1.live hp) (dta_same (same_new hp _) (dta_rev d1))) k⟩)
    | str z => exact .inr (.inr ⟨z, rfl, k.1, q _ H1 n1 _ r1 e1 (.str _) k.2⟩)
    | _ => exact k.elim
end
end DL

set_option Elab.async false
set_option linter.all false
set_option maxRecDepth 100000
set_option maxHeartbeats 2000000
/-! D11: t == (), whatever is in t. -/
namespace DL
open PySem PySem.Spec PyProof.Rows L2
section
variable {X : Cx}
def rEqE (K : PySem.W.Frag) : R2 := fun x y H Q => ∃ a b xs, x = .ref a ∧ y = .ref b ∧ SqT K H a xs ∧ SqT K H b [] ∧ Q (.bl xs.isEmpty) H
theorem op_eqE (hu : X.A.units + 64 < cLine) : OpR X (compareOp .Eq) (rEqE X.K) := by
  intro pins s σ H x y v u Q I rx ry h
  obtain ⟨a, b, xs, rfl, rfl, h1, h2, q⟩ := h
  cases rx
  cases ry
  obtain ⟨its, r1, t1, _⟩ := I.tuple h1
  obtain ⟨its2, r2, t2, _⟩ := I.tuple h2
  cases r2
  refine SeqAt.eq_tupleAt (e := fun _ => true) t1 t2 (by omega) (fun j h1 h2 => by simp at h2) ?_
  refine ⟨.bl xs.isEmpty, H, I, ?_, q⟩
  show Value.bool _ = Value.bool _
  have e : xs.length = its.length := r1.length
  cases its with
  | nil => cases r1; rfl
  | cons z zs => cases r1; rfl
def rEqV (K : PySem.W.Frag) (neg : Bool) : R2 := fun x y H Q => rEqU K neg x y H Q ∨ (neg = false ∧ rEqE K x y H Q)
theorem op_eqV (hu : X.A.units + 64 < cLine) : OpR X (compareOp .Eq) (rEqV X.K false) := by
  intro pins s σ H x y v u Q I rx ry h
  rcases h with h | ⟨_, h⟩
  · exact op_eqU hu pins s σ H x y v u Q I rx ry h
  · exact op_eqE hu pins s σ H x y v u Q I rx ry h
theorem op_neV (hu : X.A.units + 64 < cLine) : OpR X (compareOp .NotEq) (rEqV X.K true) := by
  intro pins s σ H x y v u Q I rx ry h
  rcases h with h | ⟨e, _⟩
  · exact op_neU hu pins s σ H x y v u Q I rx ry h
  · cases e
end
section
variable {c : Cn} {R : Dv → Prop}
theorem oV {neg : Bool} {d e : Dv} (h : OD c (rEqU c.K neg) d e R) : OD c (rEqV c.K neg) d e R := fun B H x y lv hx hy Q q => .inl (h B H x y lv hx hy Q q)
theorem ov_s {a b : Str} (k : R (.bl (decide (a = b)))) : OD c (rEqV c.K false) (.str a) (.str b) R := oV (oe_s k)
theorem ov_i {a b : Int} (k : R (.bl (decide (a = b)))) : OD c (rEqV c.K false) (.int a) (.int b) R := oV (oe_i k)
theorem ov_b {a b : Bool} (k : R (.bl (decide (a = b)))) : OD c (rEqV c.K false) (.bl a) (.bl b) R := oV (oe_b k)
theorem nv_s {a b : Str} (k : R (.bl (!decide (a = b)))) : OD c (rEqV c.K true) (.str a) (.str b) R := oV (on_s k)
theorem nv_i {a b : Int} (k : R (.bl (!decide (a = b)))) : OD c (rEqV c.K true) (.int a) (.int b) R := oV (on_i k)
theorem nv_b {a b : Bool} (k : R (.bl (!decide (a = b)))) : OD c (rEqV c.K true) (.bl a) (.bl b) R := oV (on_b k)
theorem ov_t {d e : Dv} (p : plain d = true ∧ plain e = true ∧ SeqAt.shaped (py d) = true ∧ SeqAt.shaped (py e) = true) (k : R (.bl (PyData.eqv (py d) (py e)))) : OD c (rEqV c.K false) d e R := oV (oe_t p k)
theorem nv_t {d e : Dv} (p : plain d = true ∧ plain e = true ∧ SeqAt.shaped (py d) = true ∧ SeqAt.shaped (py e) = true) (k : R (.bl (!PyData.eqv (py d) (py e)))) : OD c (rEqV c.K true) d e R := oV (on_t p k)
theorem ov_e {ds : List Dv} (k : R (.bl ds.isEmpty)) : OD c (rEqV c.K false) (.tup ds) (.tup []) R := fun B H x y lv hx hy Q q => by
  cases hx with
  | tup q1 d1 =>
    cases hy with
    | tup q2 d2 =>
      cases d2
      exact .inr ⟨rfl, _, _, _, rfl, rfl, q1.sq, q2.sq, q _ H _ (Same.refl _) (.bl _) (by rw [d1.empty]; exact k)⟩
end
end DL

set_option Elab.async false
set_option linter.all false
set_option maxRecDepth 100000
set_option maxHeartbeats 2000000
/-! D12: sets of texts, and their sorted lists. -/
namespace DL
open PySem L2 PySem.Spec PyProof.Rows

def vstr : Value → Str
  | .str x _ => x
  | _ => Str.empty
def GoodX (w : World) (e : Int × Value) : Prop := ∃ x tk, e.2 = Value.str x tk ∧ e.1 = hashStr w x
def keyX (e : Int × Value) : Str := vstr e.2
/-- the set of texts at a: its members l, each once -/
def SetX (w : World) (h : Heap) (a : Addr) (l : List Str) : Prop :=
  ∃ o es ep t, h.get? a = some o ∧ o.ExactSet ∧ o.data = .set es ep t ∧ (∀ e ∈ es.toList, GoodX w e) ∧ (es.toList.map keyX).Perm l ∧ l.Nodup ∧
    es.size < scanBound ∧ t.fits es.size = true ∧ Ris t.place.toList ∧ (w.params.followText "set-order" = true ∨ t.led = true)
section
variable {P : Program} {w : World} {h h' : Heap} {a : Addr} {l : List Str}
theorem SetX.at (R : SetX w h a l) (k : ∀ o, h.get? a = some o → h'.get? a = some o) : SetX w h' a l := by
  obtain ⟨o, es, ep, t, ho, r⟩ := R
  exact ⟨o, es, ep, t, k o ho, r⟩
theorem SetX.perm {l' : List Str} (R : SetX w h a l) (p : l.Perm l') : SetX w h a l' := by
  obtain ⟨o, es, ep, t, ho, h1, h2, h3, h4, h5, r⟩ := R
  exact ⟨o, es, ep, t, ho, h1, h2, h3, h4.trans p, p.nodup_iff.mp h5, r⟩
theorem goodx_elems {l : List (Int × Value)} (g : ∀ e ∈ l, GoodX w e) : ElemsOf (strKind P w) l := fun e he => by
  obtain ⟨k, tk, h1, h2⟩ := g e he
  exact ⟨⟨k, by rw [h1]; exact strKind_is P w k tk, h2⟩, by rw [h1] <;> rfl⟩
theorem goodx_is {e : Int × Value} (g : GoodX w e) (k : Str) : (strKind P w).is k e.2 = true ↔ keyX e = k := by
  obtain ⟨k0, tk, h1, _⟩ := g
  unfold keyX
  rw [h1]
  constructor
  · intro z
    exact (strKind P w).inj (.str k0 tk) _ _ (strKind_is P w k0 tk) z
  · intro z
    have z : k0 = k := z
    rw [← z]
    exact strKind_is P w k0 tk
theorem goodx_mem {l : List (Int × Value)} (g : ∀ e ∈ l, GoodX w e) (k : Str) : k ∈ l.map keyX ↔ ∃ e ∈ l, (strKind P w).is k e.2 = true := by
  rw [List.mem_map]
  constructor
  · rintro ⟨e, he, q⟩
    exact ⟨e, he, (goodx_is (g e he) k).2 q⟩
  · rintro ⟨e, he, q⟩
    exact ⟨e, he, (goodx_is (g e he) k).1 q⟩
end
section
variable {P : Program} {w : World} {A : Around} {E : Value → Shared → Prop} {s : Shared} {a : Addr} {l : List Str}
theorem setx_tail {g : Bool → Sem Unit} (hg : ∀ (b : Bool) (s₁ : Shared) (Q' : Unit → Shared → Prop), Q' () s₁ → wpAny (model P w) A (g b) Q' E s₁)
    {o : Obj} {es : Array (Int × Value)} {ep : Nat} {t : SetTable} (ho : s.heap.get? a = some o) (hex : o.ExactSet) (hd : o.data = .set es ep t)
    {es1 : Array (Int × Value)} {t2 : SetTable} {l' : List Str} (g1 : ∀ e ∈ es1.toList, GoodX w e) (p1 : (es1.toList.map keyX).Perm l') (nd1 : l'.Nodup)
    (hb1 : es1.size < scanBound) (hf2 : t2.fits es1.size = true) (hr : Ris t2.place.toList) (hl : w.params.followText "set-order" = true ∨ t2.led = true) {wasDummy : Bool} {R : Option Bool → Shared → Prop}
    (hR : ∀ h', Heap.SameBut a s.heap h' → SetX w h' a l' → R (some true) { s with heap := h' }) :
    wpAny (model P w) A (do
        storeSet a es1 t2
        if (!wasDummy && t2.tooFull) = true then do
            g (relayAll t2 es1 (SetTable.grown es1.size)).2.2
            storeSet a (relayAll t2 es1 (SetTable.grown es1.size)).1 (relayAll t2 es1 (SetTable.grown es1.size)).2.1
            pure (some true)
          else pure (some true)) R E s := by
  refine wpAny_bind (wpAny_storeSet_of ho hd ?_ (fits_of_scanBound hb1))
  have ho1 := store_at (es' := es1) (t' := t2) ho hd
  have sb1 := Heap.SameBut.update s.heap a (Obj.putSet es1 t2)
  split
  · have pm := relayAll_perm t2 es1 (SetTable.grown es1.size)
    have hf3 := relayAll_fits t2 es1 (SetTable.grown es1.size)
    have hr3 := relayAll_ris t2 es1 (SetTable.grown es1.size)
    have hl3 := relayAll_led t2 es1 (SetTable.grown es1.size)
    generalize relayAll t2 es1 (SetTable.grown es1.size) = Z at pm hf3 hr3 hl3 ⊢
    obtain ⟨es2, t3, gave⟩ := Z
    dsimp only at pm hf3 hr3 hl3 ⊢
    have hsz : es2.size = es1.size := by rw [← Array.length_toList, pm.length_eq, Array.length_toList]
    have hb2 : es2.size < scanBound := by rw [hsz]; exact hb1
    refine wpAny_bind (hg _ _ _ ?_)
    refine wpAny_bind (wpAny_storeSet_of ho1 rfl ?_ (fits_of_scanBound hb2))
    have ho2 := store_at (es' := es2) (t' := t3) ho1 rfl
    refine wpAny_pure (hR _ (sb1.trans (Heap.SameBut.update _ a _)) ?_)
    exact ⟨_, es2, _, t3, ho2, hex, rfl, fun e he => g1 e (pm.mem_iff.mp he), (pm.map keyX).trans p1, nd1, hb2, hf3, hr3, hl.imp id fun z => by rw [hl3]; exact z⟩
  · exact wpAny_pure (hR _ sb1 ⟨_, es1, _, t2, ho1, hex, rfl, g1, p1, nd1, hb1, hf2, hr, hl⟩)

theorem setx_size {h : Heap} (R : SetX w h a l) : ∃ o es ep t, h.get? a = some o ∧ o.ExactSet ∧ o.data = .set es ep t ∧ es.size = l.length := by
  obtain ⟨o, es, ep, t, ho, hx, hd, g, p, r⟩ := R
  refine ⟨o, es, ep, t, ho, hx, hd, ?_⟩
  have q := p.length_eq
  rwa [List.length_map, Array.length_toList] at q

theorem setx_add {k : Str} {tk : Tok} {Q : Bool → Shared → Prop} (R : SetX w s.heap a l) (room : l.length + 1 < scanBound)
    (hQ : ∀ h', Heap.SameBut a s.heap h' → SetX w h' a (if k ∈ l then l else k :: l) → Q (!decide (k ∈ l)) { s with heap := h' }) :
    wpAny (model P w) A (setAddHashed a (.str k tk) ((strKind P w).hash k)) Q E s := by
  obtain ⟨o, es, ep, t, ho, hex, hd, g, pl, nd, hb, hf, hr, hl⟩ := R
  have hn : es.size = l.length := by
    have q := pl.length_eq
    rwa [List.length_map, Array.length_toList] at q
  have hkey : (strKind P w).is k (.str k tk) = true := strKind_is P w k tk
  have hsc : (Value.str k tk).scannable = true := rfl
  have hel : ElemsOf (strKind P w) es.toList := goodx_elems g
  unfold setAddHashed setAddHashedIn
  refine wpAny_holding (wpAny_bind (wpAny_setState_of ho hd hf ?_))
  dsimp only
  rw [byScan_of hsc hb hel]
  simp only [↓reduceIte]
  unfold setAddByScan
  refine wpAny_bind ?_
  refine wpAny_bind (wpAny_rule ?_)
  refine wpAny_bind (wpAny_setScan_of hkey ho hd hf hel ?_)
  cases hfi : List.findIdx? (fun e => (strKind P w).is k e.2) es.toList with
  | some j =>
    dsimp only
    obtain ⟨hj, pj, _⟩ := List.findIdx?_eq_some_iff_getElem.mp hfi
    have hSk : k ∈ l := pl.mem_iff.mp ((goodx_mem (P := P) (w := w) g k).2 ⟨es.toList[j], List.getElem_mem hj, pj⟩)
    refine wpAny_pure (wpAny_pure ?_)
    have q := hQ s.heap (Heap.SameBut.refl a s.heap)
    rw [if_pos hSk, decide_eq_true hSk] at q
    exact q ⟨o, es, ep, t, ho, hex, hd, g, pl, nd, hb, hf, hr, hl⟩
  | none =>
    dsimp only
    have hnk : k ∉ l := fun z => by
      obtain ⟨e, he, q⟩ := (goodx_mem (P := P) (w := w) g k).1 (pl.mem_iff.mpr z)
      have c := List.findIdx?_eq_none_iff.mp hfi e he
      rw [q] at c
      cases c
    have hgw : ∀ (b : Bool) {s₁ : Shared} {Q' : Unit → Shared → Prop}, Q' () s₁ → wpAny (model P w) A (match b with | true => rule "set.scan.the-table-gave-way" | false => pure ()) Q' E s₁ :=
      fun b s₁ Q' q => by cases b <;> first | exact wpAny_pure q | exact wpAny_rule q
    have pm := layNew_perm t es ((strKind P w).hash k) (.str k tk)
    have hf1 := layNew_fits t es ((strKind P w).hash k) (.str k tk)
    have hr1 := layNew_ris t es ((strKind P w).hash k) (.str k tk) hr
    have hl1 := layNew_led t es ((strKind P w).hash k) (.str k tk)
    generalize layNew t es ((strKind P w).hash k) (.str k tk) = Z at pm hf1 hr1 hl1 ⊢
    obtain ⟨es1, t1, wasDummy, gave⟩ := Z
    dsimp only at pm hf1 hr1 hl1 ⊢
    rw [Array.toList_push] at pm
    have pc : es1.toList.Perm (((strKind P w).hash k, Value.str k tk) :: es.toList) := pm.trans (List.perm_append_singleton _ _)
    have pk : (es1.toList.map keyX).Perm (k :: l) := (pc.map keyX).trans (List.Perm.cons _ pl)
    have g1 : ∀ e ∈ es1.toList, GoodX w e := fun e he => by
      rcases List.mem_cons.mp (pc.mem_iff.mp he) with z | z
      · rw [z]; exact ⟨k, tk, rfl, rfl⟩
      · exact g e z
    have nd1 : (k :: l).Nodup := List.nodup_cons.mpr ⟨hnk, nd⟩
    have hsz : es1.size = l.length + 1 := by rw [← Array.length_toList, pc.length_eq, List.length_cons, Array.length_toList, hn]
    have hb1 : es1.size < scanBound := by rw [hsz]; exact room
    have hled : w.params.followText "set-order" = true ∨ t1.led = true := hl.imp id fun z => by rw [hl1]; exact z
    have fin : ∀ h', Heap.SameBut a s.heap h' → SetX w h' a (k :: l) → Q true { s with heap := h' } := fun h' sb r => by
      have q := hQ h' sb
      rw [if_neg hnk, decide_eq_false hnk] at q
      exact q r
    refine wpAny_bind (hgw _ ?_)
    split
    · refine wpAny_bind ?_
      rw [hashByValue_scannable 8 hsc]
      refine wpAny_pure ?_
      refine setx_tail ?_ ho hex hd g1 pk nd1 hb1 ?_ ?_ ?_ ?_
      · intro b s₁ Q' q; cases b <;> first | exact wpAny_pure q | exact wpAny_rule q
      · first | (split <;> first | exact hf1 | exact SetTable.fits_plain_off hf1) | exact hf1
      · first | (split <;> exact hr1) | exact hr1
      · first | (split <;> exact hled) | exact hled
      · intro h' sb r; dsimp only; exact wpAny_pure (fin h' sb r)
    · refine wpAny_bind (wpAny_pure ?_)
      simp only [↓reduceIte]
      refine setx_tail ?_ ho hex hd g1 pk nd1 hb1 hf1 hr1 hled ?_
      · intro b s₁ Q' q; cases b <;> first | exact wpAny_pure q | exact wpAny_rule q
      · intro h' sb r; dsimp only; exact wpAny_pure (fin h' sb r)
theorem setx_fresh {h : Heap} (ho : h.get? a = some { cls := .type "set", dict := none, data := .set #[] 0 (.fresh 0 0 (!w.params.followText "set-order")) }) : SetX w h a [] :=
  ⟨_, #[], 0, _, ho, ⟨rfl, rfl, rfl⟩, rfl, (fun e he => by simp at he), List.Perm.nil, List.Pairwise.nil, (by decide), (by rfl), List.Pairwise.nil, by
    show _ ∨ (!w.params.followText "set-order") = true
    cases w.params.followText "set-order"
    · exact .inr rfl
    · exact .inl rfl⟩

/-- the members met so far, each once -/
def met : List Str → List Str → List Str
  | l, [] => l
  | l, x :: xs => met (if x ∈ l then l else x :: l) xs
theorem met_mem : ∀ (xs l : List Str) (k : Str), k ∈ met l xs ↔ k ∈ l ∨ k ∈ xs
  | [], l, k => by simp [met]
  | x :: xs, l, k => by
    rw [met, met_mem]
    by_cases h : x ∈ l
    · rw [if_pos h]
      constructor
      · rintro (z | z)
        · exact .inl z
        · exact .inr (List.mem_cons_of_mem _ z)
      · rintro (z | z)
        · exact .inl z
        · rcases List.mem_cons.mp z with z | z
          · exact .inl (z ▸ h)
          · exact .inr z
    · rw [if_neg h]
      simp only [List.mem_cons]
      constructor
      · rintro ((z | z) | z)
        · exact .inr (.inl z)
        · exact .inl z
        · exact .inr (.inr z)
      · rintro (z | z | z)
        · exact .inl (.inr z)
        · exact .inl (.inl z)
        · exact .inr z
theorem met_len : ∀ (xs l : List Str), (met l xs).length ≤ l.length + xs.length
  | [], l => Nat.le_refl _
  | x :: xs, l => by
    rw [met]
    have := met_len xs (if x ∈ l then l else x :: l)
    have : (if x ∈ l then l else x :: l).length ≤ l.length + 1 := by split <;> simp
    simp only [List.length_cons]
    omega
theorem met_nodup : ∀ (xs l : List Str), l.Nodup → (met l xs).Nodup
  | [], l, h => h
  | x :: xs, l, h => by
    rw [met]
    refine met_nodup xs _ ?_
    by_cases q : x ∈ l
    · rw [if_pos q]; exact h
    · rw [if_neg q]; exact List.nodup_cons.mpr ⟨q, h⟩
end

section
variable {P : Program} {w : World} {A : Around} {E : Value → Shared → Prop}
theorem setx_update {I : Addr} {fp wr : List Addr} {G : Array GenState → Array GenState → Prop} {n : Nat} {Pv : Nat → Value → Prop} {St : Nat → Shared → Prop} {R : Result → Shared → Prop}
    (W : WalksS P w A.in1 I fp wr G n Pv St) (S : Addr) (hSf : S ∉ fp) (xs : List Str) (hn : n = xs.length) (hval : ∀ i v, Pv i v → ∃ k t, xs[i]? = some k ∧ v = .str k t) :
    ∀ (k i : Nat) (s : Shared) (l : List Str), n - i = k → i ≤ n → St i s → SetX w s.heap S l → l.length + k + 1 < scanBound →
      (∀ s', Moved (S :: wr) G s s' → SetX w s'.heap S (met l (xs.drop i)) → R (.ok (.ret .none)) s') →
      codeAny (model P w) A (.builtin "set.update.loop" ⟨[.ref S, .ref I], []⟩) R s := by
  have hSw : S ∉ wr := fun h => hSf (W.sub _ h)
  have hsub : ∀ b ∈ wr, b ∈ S :: wr := fun b hb => List.mem_cons_of_mem _ hb
  intro k
  induction k with
  | zero =>
    intro i s l hk' hi hst hS hb hR
    have hin : i = n := by omega
    subst hin
    refine codeAny_builtin F.entry_set_update_loop ?_
    rw [Around.under_plainId F.plain_set_update_loop _]
    show wpAny _ A.in1 (pyNext (.ref I) >>= _) _ _ s
    refine wpAny_bind (W.done s _ _ hst fun s' hm => ?_)
    show wpAny _ A.in1 (ret Value.none) _ _ s'
    have e : xs.drop i = [] := List.drop_of_length_le (by omega)
    rw [e] at hR
    exact wpAny_pure (hR s' (hm.mono hsub) (hS.at fun o e => hm.heap S o hSw e))
  | succ k ih =>
    intro i s l hk' hi hst hS hb hR
    have hlt : i < n := by omega
    refine codeAny_builtin F.entry_set_update_loop ?_
    rw [Around.under_plainId F.plain_set_update_loop _]
    show wpAny _ A.in1 (pyNext (.ref I) >>= _) _ _ s
    refine wpAny_bind (W.item i s _ _ hlt hst fun v s' hP hst' hm => ?_)
    obtain ⟨z, t, hz, rfl⟩ := hval i v hP
    have hS' : SetX w s'.heap S l := hS.at fun o e => hm.heap S o hSw e
    show wpAny _ A.in1 (holding [Value.str z t] (setAdd S (.str z t)) >>= _) _ _ s'
    refine wpAny_bind (wpAny_holding ?_)
    unfold setAdd
    refine wpAny_holding ?_
    refine wpAny_bind ((strKind P w).pyHash (k := z) (strKind_is _ _ _ _) ?_)
    refine setx_add (s := { s' with toks := s'.toks + 1 }) hS' (by omega) fun h' hsb hS2 => ?_
    have hd : xs.drop i = z :: xs.drop (i + 1) := by
      obtain ⟨h1, h2⟩ := List.getElem?_eq_some_iff.mp hz
      rw [List.drop_eq_getElem_cons h1, h2]
    rw [hd] at hR
    have hlen : (if z ∈ l then l else z :: l).length ≤ l.length + 1 := by split <;> simp
    refine wpAny_pure ⟨plainId_quiet F.plain_set_update_loop _, ih (i + 1) _ _ (by omega) hlt (W.frame _ s' _ _ hst' (Nat.le_succ _) fun b hb o e => ?_) hS2 (by omega) fun s'' hm'' hS'' => ?_⟩
    · rw [hsb.2 b (fun h : b = S => hSf (by rw [← h]; exact hb))]; exact e
    · refine hR s'' (Moved.trans W.gtrans ((hm.mono hsub).then_heap (Nat.le_succ _) fun b o hb e => ?_) hm'') hS''
      rw [hsb.2 b (fun h : b = S => hb (by rw [h]; exact List.mem_cons_self))]; exact e
end
end DL

set_option Elab.async false
set_option linter.all false
set_option maxRecDepth 100000
set_option maxHeartbeats 3200000
/-! D13: set(text), sorted(set(text)). -/
namespace DL
open PySem L2 PySem.Spec PyProof.Rows
/-- the signs of a text, each a text -/
def sgs (x : Str) : List Str := x.cps.toList.map fun c => ⟨#[c]⟩
theorem sgs_at {x : Str} {i : Nat} {v : Value} (h : SignAt x i v) : ∃ k t, (sgs x)[i]? = some k ∧ v = .str k t := by
  obtain ⟨c, u, hc, rfl⟩ := h
  refine ⟨⟨#[c]⟩, u, ?_, rfl⟩
  unfold sgs
  rw [List.getElem?_map, Array.getElem?_toList, hc] <;> rfl
section
variable {P : Program} {w : World} {A : Around} {E : Value → Shared → Prop} {s : Shared}
theorem call_set_txt {x : Str} {u : Tok} {Q : Value → Shared → Prop} (hh : A.handled = none) (hb : x.cps.size + 1 < scanBound)
    (h : ∀ (h' : Heap) (tk : Nat), SetX w h' s.heap.objs.size (met [] (sgs x)) → (∀ b o, s.heap.get? b = some o → h'.get? b = some o) → Q (.ref s.heap.objs.size) { s with heap := h', toks := tk }) :
    wpAny (model P w) A (call (.type "set") [.str x u]) Q E s := by
  obtain ⟨c, tl, hmro⟩ := F.called_set.mro
  have hmade := F.called_set.made
  have hsub := F.called_set.sub
  refine wpAny_call (codeAny_of_tree ?_)
  show wpAny _ _ (callAny (.type "set") _) _ _ _
  refine wpAny_pure ⟨Code.quiet_builtin _ (by decide +kernel), codeAny_builtin F.entry_type_call ?_⟩
  rw [Around.under_plain (weight_type_call_type "set" [.str x u] []) rfl]
  have h1 := F.called_set.notType
  have h2 := F.called_set.canCreate
  have hct := F.typeCall_set_1 (.str x u)
  repeat (any_goals (first | assumption | wp_step))

  refine codeAny_mono (code_set_led1 (.str x u) (E := E) (Q₁ := fun obj s₁ => obj = .ref s.heap.objs.size ∧ s₁ = { s with heap := s.heap.push { cls := .type "set", dict := none, data := .set #[] 0 (.fresh 0 0 (!w.params.followText "set-order")) } }) ⟨rfl, rfl⟩) fun r s₁ hr => ?_
  cases r with
  | error e => exact hr
  | ok fl =>
    cases fl with
    | ret obj =>
      obtain ⟨rfl, rfl⟩ := hr
      have hS : (s.heap.push { cls := .type "set", dict := none, data := .set #[] 0 (.fresh 0 0 (!w.params.followText "set-order")) }).get? s.heap.objs.size = some { cls := .type "set", dict := none, data := .set #[] 0 (.fresh 0 0 (!w.params.followText "set-order")) } := Heap.get?_push_size _ rfl
      have hT : Shared.TypeIs { s with heap := s.heap.push { cls := .type "set", dict := none, data := .set #[] 0 (.fresh 0 0 (!w.params.followText "set-order")) } } (.ref s.heap.objs.size) "set" := ⟨_, hS, rfl⟩
      have hli := F.called_set.init.lookup
      have hbi := F.called_set.init.bind (.ref s.heap.objs.size)
      repeat (any_goals (first | assumption | wp_step))

      refine codeAny_mono (codeAny_call_builtin (R := wants (fun r s₂ => r = .none ∧ ∃ h' tk, s₂ = { s with heap := h', toks := tk } ∧ SetX w h' s.heap.objs.size (met [] (sgs x)) ∧
          (∀ b o, s.heap.get? b = some o → h'.get? b = some o)) E) F.called_set.init.plain F.entry_set_init (check_set_init_1 hT ?_)) fun r₂ s₂ hr₂ => ?_
      · have hsls := PySem.F.sub_str_set
        have hslf := PySem.F.sub_str_frozenset
        have hne : (Value.type "str" == Value.type "dict") = false := by decide
        unfold Builtin.«set.__init__» noKeywords Builtin.Frozenset.updateFrom
        generalize hPI : pyIter = PI
        wp_walk
        subst hPI
        refine wpAny_pyIter_str fun o St hW hst => ?_
        refine wpAny_bind (wpAny_runValue ?_)
        have hh3 : A.in1.in1.in1.handled = none := by simp [hh]
        have hSf : s.heap.objs.size ∉ [(s.heap.push { cls := .type "set", dict := none, data := .set #[] 0 (.fresh 0 0 (!w.params.followText "set-order")) }).objs.size] := by
          rw [Heap.size_push, List.mem_singleton]
          exact Nat.ne_of_lt (Nat.lt_succ_self _)
        have hlen : x.cps.size = (sgs x).length := by unfold sgs; rw [List.length_map, Array.length_toList]
        refine setx_update ((hW _ hh3).toS) s.heap.objs.size
          hSf (sgs x) hlen (fun i v => sgs_at) (x.cps.size - 0) 0 _ [] (by omega) (Nat.zero_le _) hst ?hS0 (by simpa using hb) ?hR
        case hS0 => exact setx_fresh (Heap.get?_push_of_some _ hS)
        case hR =>
          intro s' hm hS'
          obtain ⟨h', g2, d', tk', os'⟩ := s'
          have eg : g2 = s.gens := hm.gens
          have ed : d' = s.drawn := hm.drawn
          have eo : os' = s.os := hm.os
          subst eg; subst ed; subst eo
          show wpAny _ _ _ _ _ _
          refine wpAny_pure ?_
          show wpAny _ _ (ret Value.none) _ _ _
          refine wpAny_pure ⟨rfl, h', tk', rfl, hS', fun b o e => ?_⟩
          have hb0 : b < s.heap.objs.size := Heap.lt_size e
          have hb1 : b ≠ s.heap.objs.size := Nat.ne_of_lt hb0
          have hb2 : b ≠ (s.heap.push { cls := .type "set", dict := none, data := .set #[] 0 (.fresh 0 0 (!w.params.followText "set-order")) }).objs.size := by
            rw [Heap.size_push]; exact Nat.ne_of_lt (Nat.lt_succ_of_lt hb0)
          exact hm.heap b o (by simp only [List.mem_cons, List.mem_singleton, List.not_mem_nil, or_false, not_or]; exact ⟨hb1, hb2⟩) (Heap.get?_push_of_some _ (Heap.get?_push_of_some _ e))
      · cases r₂ with
        | error e => exact hr₂
        | ok fl₂ =>
          cases fl₂ with
          | ret r =>
            obtain ⟨rfl, h', tk, rfl, hS', hk'⟩ := hr₂
            repeat (any_goals (first | assumption | wp_step))
            exact h _ _ hS' hk'
          | _ => exact hr₂.elim
    | _ => exact hr.elim
end
end DL

set_option Elab.async false
set_option linter.all false
set_option maxRecDepth 100000
set_option maxHeartbeats 3200000
/-! D14: sorted(set(text)), list(x) of a list, tuple or text. -/
namespace DL
open PySem L2 PySem.Spec PyProof.Rows
theorem strs_of : ∀ (l : List Value), (∀ v ∈ l, ∃ k tk, v = Value.str k tk) → StrsAre l (l.map vstr)
  | [], _ => .nil
  | v :: l, h => by
    obtain ⟨k, tk, rfl⟩ := h v List.mem_cons_self
    exact .cons k tk (strs_of l fun u hu => h u (List.mem_cons_of_mem _ hu))
section
variable {P : Program} {w : World} {A : Around} {E : Value → Shared → Prop} {s : Shared} {a : Addr} {l : List Str}
theorem sorted_setx {Q : Value → Shared → Prop} (R : SetX w s.heap a l) (hh : A.handled = none)
    (hQ : ∀ s' p (out : Array Value) (c : Nat) (ns : List Str), (∀ b o, s.heap.get? b = some o → s'.heap.get? b = some o) → s'.gens = s.gens → s'.os = s.os → s.heap.objs.size ≤ p →
      s'.heap.get? p = some (seqObj "list" out c) → StrsAre out.toList ns → ns.Perm l → sortedS ns = true → Q (.ref p) s') :
    wpAny (model P w) A (call (.builtin "sorted") [.ref a]) Q E s := by
  obtain ⟨o, es, ep, t, ho, hex, hd, g, pl, nd, hb, hf, hr, hl⟩ := R
  refine Calls.call_function_entry kind_sorted plain_sorted entry_sorted (args_sorted1 _) ?_
  unfold Builtin.«sorted»
  refine wpAny_bind (m := checkCount "sorted" 1 1 _) (wpAny_pure ?_)
  refine wpAny_bind (collect_set (A := A.in1) hh ⟨o, ho, hex.1, hd⟩ hf hb hr hl fun s1 vs k1 hz g1 o1 pm => ?_)
  have hvl : vs.length ≤ sizeLine := by rw [pm.length_eq, List.length_map, Array.length_toList]; exact fits_of_scanBound hb
  have hI : StrsAre vs (vs.map vstr) := strs_of vs fun v hv => by
    obtain ⟨e, he, q⟩ := List.mem_map.mp (pm.mem_iff.mp hv)
    obtain ⟨k, tk, h1, _⟩ := g e he
    exact ⟨k, tk, by rw [← q]; exact h1⟩
  have pk : (vs.map vstr).Perm (es.toList.map keyX) := by
    have q := pm.map vstr
    rw [List.map_map] at q
    exact q
  refine wpAny_bind (wpAny_newList ?_ hvl)
  have hoL : (s1.heap.push (seqObj "list" vs.toArray 0)).get? s1.heap.objs.size = some (seqObj "list" vs.toArray 0) := Heap.get?_push_size _ rfl
  refine wpAny_bind (wpAny_holding (wpAny_call_entry slot_list_sort ⟨_, hoL, rfl⟩ entry_list_sort (list_sort_treeKAny strKind_oneLt hoL hI.keysOf (fun v₁ v₂ rest e => keyKind_strs (by rw [← e]; exact hI)) hvl fun st' hp hs => ⟨_, rfl, ?_⟩) (args_list_sort _)))
  obtain ⟨ss', a1, a2, a3⟩ := sorted_out_str hI hp hs
  obtain ⟨c, hc⟩ := sortedHeap_at (vs := vs) (out := ((arrOf st').map (·.2))) hoL
  refine wpAny_pure ⟨_, rfl, hQ _ s1.heap.objs.size _ c ss' (fun b u e => ?_) g1 o1 hz hc a1 ((a2.trans pk).trans pl) a3⟩
  have q := k1 b u e
  have hlt := Heap.lt_size q
  show (sortedHeap (s1.heap.push (seqObj "list" vs.toArray 0)) s1.heap.objs.size vs ((arrOf st').map (·.2))).get? b = some u
  rw [sortedHeap_old (Nat.ne_of_lt hlt) (by rw [size_push']; exact Nat.lt_succ_of_lt hlt)]
  exact Heap.get?_push_of_some _ q
end
section
variable {X : Cx}
/-- sorted(set(text)) -/
def tSortSet (ta : TE) : TE := fun σ H Q => ta σ H fun v H1 => ∃ x : Str, v = .str x ∧ x.cps.size ≤ 1000 ∧ ∀ (ys : List Str) (p : Addr), ys.Perm (met [] (sgs x)) → sortedS ys = true → H1 p = none → Q (.ref p) (upd H1 p (.lst (ys.map V.str)))
theorem pe_sortSet {a : Expr} {ta : TE} {p p2 q pos : Pos} (hc : X.calm = true) (hg : Gl X "sorted") (hm : X.mg "sorted" = none) (hg2 : Gl X "set") (hm2 : X.mg "set" = none) (ha : PE X a ta)
    (hb : bootBuiltins "sorted" = some (.builtin "sorted") := by decide +kernel)
    (na : starEach [a] X.env = (false, eval a X.env) :: starEach [] X.env := by rfl) : PE X (.Call (.Name "sorted" p) [.Call (.Name "set" p2) [a] [] q] [] pos) (tSortSet ta) := by
  refine ⟨fun pins s σ H Q I h => ?_⟩
  refine Call_ (ld_blt I hg hm hb ?_)
  refine PyProof.Rows.callWith_builtin1 (PyProof.Rows.args_cons ?_ rfl) rfl rfl
  refine Call_ (ld_blt I hg2 hm2 boot_set ?_)
  refine PyProof.Rows.callWith_type1 (PyProof.Rows.args_cons (thn (ha.run pins s σ H _ I h) fun v s1 ⟨x, H1, I1, r1, q1⟩ => PyProof.Rows.args_nil ?_) na) na rfl
  obtain ⟨x, rfl, hx, q1⟩ := q1
  obtain ⟨tk, rfl⟩ := r1
  refine call_set_txt (I1.ok.hd hc) (by show _ < 4096; omega) fun h' tk' hS hk => ?_
  refine PyProof.Rows.args_nil ?_
  have I2 : Inv X pins σ H1 { s1 with heap := h', toks := tk' } := I1.kept hk
  refine sorted_setx (s := { s1 with heap := h', toks := tk' }) hS (I2.ok.hd hc) fun s' p out c ns k g o hp hgt hi hpm hs => ?_
  have hlen : (ns.map V.str).length ≤ sizeLine := by
    rw [List.length_map, hpm.length_eq]
    have h1 := met_len (sgs x) []
    have h2 : (sgs x).length = x.cps.size := by unfold sgs; rw [List.length_map, Array.length_toList]
    rw [sizeLine_eq]
    simp only [List.length_nil, Nat.zero_add] at h1
    omega
  have hn : H1 p = none := I2.hok.fresh hp
  have J : Inv X pins σ (upd H1 p (.lst (ns.map V.str))) s' := I2.call' (ch := []) o (Un.laid k hp hn) (I2.hok.laid k hp ⟨hlen, out.toList, c, vals_of_strs hi, hgt⟩) (by rw [g]; exact I2.bare) (fun _ z => nomatch z)
  exact ⟨.ref p, _, J, rfl, q1 ns p hpm hs hn⟩
/-- list(x): a list, a tuple, a text -/
def rListA (K : PySem.W.Frag) : List V → Hp → VK → Prop := fun xs H Q => (∃ p ys, xs = [.ref p] ∧ (SqL K H p ys ∨ SqT K H p ys) ∧ ∀ l, H l = none → Q (.ref l) (upd H l (.lst ys))) ∨
  ∃ x : Str, xs = [.str x] ∧ x.cps.size ≤ sizeLine ∧ ∀ l, H l = none → Q (.ref l) (upd H l (.lst ((sgs x).map V.str)))
theorem items_sgs {x : Str} {acc : Array Value} (h : ItemsOf (SignAt x) acc x.cps.size) : Vals ((sgs x).map V.str) acc.toList := by
  have e : ∀ (ys : List Str) (us : List Value), ys.length = us.length → (∀ (i : Nat) (k : Str) (u : Value), ys[i]? = some k → us[i]? = some u → ∃ t, u = Value.str k t) → Vals (ys.map V.str) us := by
    intro ys
    induction ys with
    | nil =>
      intro us hl _
      cases us with
      | nil => exact .nil
      | cons _ _ => cases hl
    | cons y ys ih =>
      intro us hl hi
      cases us with
      | nil => cases hl
      | cons u us => exact .cons (hi 0 y u rfl rfl) (ih us (by simpa using hl) fun i k v h1 h2 => hi (i + 1) k v (by simpa using h1) (by simpa using h2))
  refine e _ _ ?_ fun i k u h1 h2 => ?_
  · unfold sgs; rw [List.length_map, Array.length_toList, Array.length_toList, h.1]
  · rw [Array.getElem?_toList] at h2
    obtain ⟨k', t, h3, rfl⟩ := sgs_at (h.2 i u h2)
    rw [h1] at h3
    cases h3
    exact ⟨t, rfl⟩
theorem call_listA (hc : X.calm = true) : CallR X (.type "list") (rListA X.K) := by
  intro pins s σ H vs us Q I r h
  rcases h with h | ⟨x, rfl, hx, q⟩
  · exact call_list_of pins s σ H vs us Q I r h
  · obtain ⟨u, rfl, t, rfl⟩ := vals1 r
    refine call_list_str (I.ok.hd hc) x t (hn := hx) fun h' tk acc c hk hl hi => ?_
    have hlen : ((sgs x).map V.str).length ≤ sizeLine := by unfold sgs; rw [List.length_map, List.length_map, Array.length_toList]; exact hx
    exact ⟨.ref _, upd H s.heap.objs.size (.lst ((sgs x).map V.str)), I.laid (t' := tk) hk (Nat.le_refl _) ⟨hlen, acc.toList, c, items_sgs hi, hl⟩, rfl, q _ (I.hok.fresh (Nat.le_refl _))⟩
end
section
variable {c : Cn} {n : Nat} {env : DL.Env}
theorem ed_sortSet {te : TE} {R : Nat → Dv → Prop} (h : ED c te n env fun n1 d => ∃ x : Str, d = .str x ∧ x.cps.size ≤ 1000 ∧ ∀ ys : List Str, ys.Perm (met [] (sgs x)) → sortedS ys = true → R n1 (.lst (ys.map Dv.str))) : ED c (tSortSet te) n env R := fun B H σ r Q q =>
  h B H σ r _ fun v H1 n1 d r1 e1 h1 ⟨x, e, hx, k⟩ => by
    subst e
    cases h1
    refine ⟨x, rfl, hx, fun ys p hp hs hn => ?_⟩
    exact q _ _ n1 _ (r1.same (same_new hn _)) (e1.trans (Ext0.same (same_new hn _))) (.lst (ql_new r1.live hn) (dta_strs ys)) (k ys hp hs)
variable {R : Dv → Prop}
theorem cd_listA {d : Dv} {ds : List Dv} (e : seqD d = some ds) (k : R (.lst ds)) : CD c (rListA c.K) [d] R := fun B H xs lv hx Q q => .inl (cd_list e k B H xs lv hx Q q)
theorem cd_listS {x : Str} (hx : x.cps.size ≤ sizeLine) (k : R (.lst ((sgs x).map Dv.str))) : CD c (rListA c.K) [.str x] R := fun B H xs lv hxs Q q => by
  cases hxs with
  | cons a b =>
    cases b
    cases a
    exact .inr ⟨x, rfl, hx, fun p hp => q _ _ _ (same_new hp _) (.lst (ql_new lv hp) (dta_strs _)) k⟩
end
end DL

set_option Elab.async false
set_option linter.all false
set_option maxRecDepth 100000
set_option maxHeartbeats 3200000
/-! D15: bools among ints, str(x), what a value of any kind may weigh. -/
namespace DL
open PySem L2 PySem.Spec PyProof.Rows
section
variable {X : Cx}
def rAddB : R2 := fun x y H Q => (∃ k i, x = .bl k ∧ y = .int i ∧ Q (.int ((if k = true then 1 else 0) + i)) H) ∨ ∃ i k, x = .int i ∧ y = .bl k ∧ Q (.int (i + (if k = true then 1 else 0))) H
theorem op_addB : OpR X (binaryOp .Add) rAddB := by
  intro pins s σ H x y v u Q I rx ry h
  rcases h with ⟨k, i, rfl, rfl, q⟩ | ⟨i, k, rfl, rfl, q⟩
  · cases rx
    obtain ⟨t, rfl⟩ := ry
    exact PySem.IntBool.add_bool_int ⟨.int _, H, I.tok _, ⟨_, rfl⟩, q⟩
  · obtain ⟨t, rfl⟩ := rx
    cases ry
    exact add_int_bool ⟨.int _, H, I.tok _, ⟨_, rfl⟩, q⟩
def rAddV (K : PySem.W.Frag) : R2 := fun x y H Q => rAddU K x y H Q ∨ rAddB x y H Q
theorem op_addV : OpR X (binaryOp .Add) (rAddV X.K) := OpR.or op_addU op_addB
def rSubV : R2 := fun x y H Q => rI0 (fun i j => .int (i - j)) x y H Q ∨ (∃ k i, x = .bl k ∧ y = .int i ∧ Q (.int ((if k = true then 1 else 0) - i)) H)
theorem op_subB : OpR X (binaryOp .Sub) (fun x y H Q => ∃ k i, x = .bl k ∧ y = .int i ∧ Q (.int ((if k = true then 1 else 0) - i)) H) := by
  intro pins s σ H x y v u Q I rx ry h
  obtain ⟨k, i, rfl, rfl, q⟩ := h
  cases rx
  obtain ⟨t, rfl⟩ := ry
  exact PySem.IntBool.sub_bool_int ⟨.int _, H, I.tok _, ⟨_, rfl⟩, q⟩
theorem op_subV : OpR X (binaryOp .Sub) rSubV := OpR.or op_sub op_subB
/-- str(x): an int, a bool, a text -/
def rStrA : List V → Hp → VK → Prop := fun xs H Q => (∃ i, xs = [.int i] ∧ i.natAbs.log2 < 1920 ∧ Q (.str (toString i)) H) ∨ (∃ k, xs = [.bl k] ∧ Q (.str (if k = true then "True" else "False")) H) ∨ ∃ a, xs = [.str a] ∧ Q (.str a) H
theorem call_strA : CallR X (.type "str") rStrA := by
  intro pins s σ H vs us Q I r h
  rcases h with h | ⟨k, rfl, q⟩ | h
  · exact call_str_int pins s σ H vs us Q I r h
  · obtain ⟨u, rfl, hu⟩ := vals1 r
    cases hu
    refine PySem.P.str_of_bool ⟨.str (if k = true then "True" else "False"), H, I.tok _, ⟨s.toks, ?_⟩, q⟩
    cases k <;> rfl
  · exact SkE.call_str_str pins s σ H vs us Q I r h
end
section
variable {c : Cn} {R : Dv → Prop}
theorem oa_i {a b : Int} (k : R (.int (a + b))) : OD c (rAddV c.K) (.int a) (.int b) R := fun B H x y lv hx hy Q q => .inl (od_add k B H x y lv hx hy Q q)
theorem oa_bi {a : Bool} {b : Int} (k : R (.int ((if a = true then 1 else 0) + b))) : OD c (rAddV c.K) (.bl a) (.int b) R := fun B H x y lv hx hy Q q => by
  cases hx; cases hy
  exact .inr (.inl ⟨_, _, rfl, rfl, q _ H _ (Same.refl _) (.int _) k⟩)
theorem oa_ib {a : Int} {b : Bool} (k : R (.int (a + (if b = true then 1 else 0)))) : OD c (rAddV c.K) (.int a) (.bl b) R := fun B H x y lv hx hy Q q => by
  cases hx; cases hy
  exact .inr (.inr ⟨_, _, rfl, rfl, q _ H _ (Same.refl _) (.int _) k⟩)
theorem os_i {a b : Int} (k : R (.int (a - b))) : OD c rSubV (.int a) (.int b) R := fun B H x y lv hx hy Q q => .inl (od_sub (c := c) k B H x y lv hx hy Q q)
theorem os_bi {a : Bool} {b : Int} (k : R (.int ((if a = true then 1 else 0) - b))) : OD c rSubV (.bl a) (.int b) R := fun B H x y lv hx hy Q q => by
  cases hx; cases hy
  exact .inr ⟨_, _, rfl, rfl, q _ H _ (Same.refl _) (.int _) k⟩
theorem cs_i {i : Int} (h : i.natAbs.log2 < 1920) (k : R (.str (toString i))) : CD c rStrA [.int i] R := fun B H xs lv hx Q q => by
  cases hx with
  | cons a b => cases b; cases a; exact .inl ⟨_, rfl, h, q _ H _ (Same.refl _) (.str _) k⟩
theorem cs_b {b : Bool} (k : R (.str (if b = true then "True" else "False"))) : CD c rStrA [.bl b] R := fun B H xs lv hx Q q => by
  cases hx with
  | cons a b => cases b; cases a; exact .inr (.inl ⟨_, rfl, q _ H _ (Same.refl _) (.str _) k⟩)
theorem cs_s {x : Str} (k : R (.str x)) : CD c rStrA [.str x] R := fun B H xs lv hx Q q => by
  cases hx with
  | cons a b => cases b; cases a; exact .inr (.inr ⟨_, rfl, q _ H _ (Same.refl _) (.str _) k⟩)
theorem oA {d e : Dv} (h : OD c (rAddU c.K) d e R) : OD c (rAddV c.K) d e R := fun B H x y lv hx hy Q q => .inl (h B H x y lv hx hy Q q)
end

/-! ### what a value may weigh -/
def keyOkD : Key → Bool
  | .inl i => decide (i.natAbs.log2 < 900)
  | .inr x => PyData.strOk x
mutual
def okD : Dv → Bool
  | .non => true
  | .bl _ => true
  | .int i => decide (i.natAbs.log2 < 900)
  | .str x => PyData.strOk x
  | .tup ds => okA ds
  | .lst ds => okA ds
  | .dic es => okE es
  | _ => false
def okA : List Dv → Bool
  | [] => true
  | d :: ds => okD d && okA ds
def okE : List (Key × Dv) → Bool
  | [] => true
  | (k, d) :: es => keyOkD k && okD d && okE es
end
mutual
theorem ok_plain : ∀ d : Dv, okD d = true → plain d = true
  | .non, _ => rfl
  | .bl _, _ => rfl
  | .int _, _ => rfl
  | .str _, _ => rfl
  | .tup ds, h => by simp only [plain]; exact okA_plain ds (by simpa only [okD] using h)
  | .lst ds, h => by simp only [plain]; exact okA_plain ds (by simpa only [okD] using h)
  | .dic es, h => by simp only [plain]; exact okE_plain es (by simpa only [okD] using h)
  | .ins _ _, h => by simp [okD] at h
  | .deck _, h => by simp [okD] at h
  | .scr _, h => by simp [okD] at h
theorem okA_plain : ∀ ds : List Dv, okA ds = true → plainA ds = true
  | [], _ => rfl
  | d :: ds, h => by
    have h' : okD d = true ∧ okA ds = true := by simpa [okA] using h
    simp only [plainA, Bool.and_eq_true]
    exact ⟨ok_plain d h'.1, okA_plain ds h'.2⟩
theorem okE_plain : ∀ es : List (Key × Dv), okE es = true → plainE es = true
  | [], _ => rfl
  | (k, d) :: es, h => by
    have h' : (keyOkD k = true ∧ okD d = true) ∧ okE es = true := by simpa [okE] using h
    simp only [plainE, Bool.and_eq_true]
    exact ⟨ok_plain d h'.1.2, okE_plain es h'.2⟩
end
theorem ok_sign {x : Str} (h : PyData.strOk x = true) : (x.cps.toList.all fun c => decide (c < 16 ^ 8)) = true := by
  unfold PyData.strOk at h
  rw [← Array.all_toList] at h
  rw [List.all_eq_true] at h ⊢
  intro c hc
  have := h c hc
  simp only [decide_eq_true_eq] at this ⊢
  have e : (16 : Nat) ^ 8 = 4294967296 := by decide
  omega
theorem ok_int {i : Int} (h : i.natAbs.log2 < 900) : (PyData.shown (.int i)).length ≤ 1000 := by
  simp only [PyData.shown]
  rw [PySem.ofString_length]
  have := int_text_length_le (a := i) (k := 900) (by decide) h
  omega
mutual
theorem ok_leaves : ∀ d : Dv, okD d = true → (py d).leavesShort 1000 = true ∧ (py d).showable = true
  | .non, _ => ⟨rfl, rfl⟩
  | .bl _, _ => ⟨rfl, rfl⟩
  | .int i, h => by
    have h' : i.natAbs.log2 < 900 := by simpa [okD] using h
    simp only [py, PyData.leavesShort, PyData.showable, decide_eq_true_eq]
    exact ⟨ok_int h', by omega⟩
  | .str x, h => by
    have h' : PyData.strOk x = true := by simpa [okD] using h
    simp only [py, PyData.leavesShort, PyData.showable]
    exact ⟨ok_sign h', trivial⟩
  | .tup ds, h => by simp only [py, PyData.leavesShort, PyData.showable]; exact okA_leaves ds (by simpa only [okD] using h)
  | .lst ds, h => by simp only [py, PyData.leavesShort, PyData.showable]; exact okA_leaves ds (by simpa only [okD] using h)
  | .dic es, h => by simp only [py, PyData.leavesShort, PyData.showable]; exact okE_leaves es (by simpa only [okD] using h)
  | .ins _ _, h => by simp [okD] at h
  | .deck _, h => by simp [okD] at h
  | .scr _, h => by simp [okD] at h
theorem okA_leaves : ∀ ds : List Dv, okA ds = true → PyData.leavesShortAll 1000 (pyA ds) = true ∧ PyData.showableAll (pyA ds) = true
  | [], _ => ⟨rfl, rfl⟩
  | d :: ds, h => by
    have h' : okD d = true ∧ okA ds = true := by simpa [okA] using h
    simp only [pyA, PyData.leavesShortAll, PyData.showableAll, Bool.and_eq_true]
    have h1 := ok_leaves d h'.1
    have h2 := okA_leaves ds h'.2
    exact ⟨⟨h1.1, h2.1⟩, ⟨h1.2, h2.2⟩⟩
theorem okE_leaves : ∀ es : List (Key × Dv), okE es = true → PyData.leavesShortKv 1000 (pyE es) = true ∧ PyData.showableKv (pyE es) = true
  | [], _ => ⟨rfl, rfl⟩
  | (k, d) :: es, h => by
    have h' : (keyOkD k = true ∧ okD d = true) ∧ okE es = true := by simpa [okE] using h
    simp only [pyE, PyData.leavesShortKv, PyData.showableKv, Bool.and_eq_true]
    have h1 := ok_leaves d h'.1.2
    have h2 := okE_leaves es h'.2
    have h3 : (pyK k).leavesShort 1000 = true ∧ (pyK k).showable = true := by
      have hk := h'.1.1
      cases k with
      | inl i =>
        have hk' : i.natAbs.log2 < 900 := by simpa [keyOkD] using hk
        simp only [pyK, PyData.leavesShort, PyData.showable, decide_eq_true_eq]
        exact ⟨ok_int hk', by omega⟩
      | inr x =>
        have hk' : PyData.strOk x = true := by simpa [keyOkD] using hk
        simp only [pyK, PyData.leavesShort, PyData.showable]
        exact ⟨ok_sign hk', trivial⟩
    exact ⟨⟨⟨h3.1, h1.1⟩, h2.1⟩, ⟨⟨h3.2, h1.2⟩, h2.2⟩⟩
end
/-- a plain value: m its weight at most, k its depth -/
structure Ok (m k : Nat) (d : Dv) : Prop where
  ok : okD d = true
  wt : (py d).weight ≤ m
  dp : (py d).depth ≤ k
theorem Ok.more {m k m' k' : Nat} {d : Dv} (h : Ok m k d) (a : m ≤ m') (b : k ≤ k') : Ok m' k' d := ⟨h.ok, Nat.le_trans h.wt a, Nat.le_trans h.dp b⟩
theorem Ok.short {m k : Nat} {d : Dv} (h : Ok m k d) (a : m ≤ 16000) : (py d).shown.length ≤ sizeLine := by
  have h1 := PyData.shown_le 1000 (by decide) (py d) (ok_leaves d h.ok).1
  have h2 := h.wt
  rw [sizeLine_eq]
  omega
section
variable {c : Cn} {R : Dv → Prop}
theorem cd_reprO {m k : Nat} {d : Dv} (h : Ok m k d) (a : m ≤ 16000) (b : k ≤ 60) (q : R (.str (py d).shown)) : CD c (rRepr c.K) [d] R :=
  cd_repr (ok_plain d h.ok) (ok_leaves d h.ok).2 (Nat.le_trans h.dp b) (h.short a) q
end
/-! ### lists of plain values -/
theorem okA_iff : ∀ {ds : List Dv}, okA ds = true ↔ ∀ d ∈ ds, okD d = true
  | [] => by simp [okA]
  | d :: ds => by simp [okA, okA_iff (ds := ds)]
theorem wtA_mem : ∀ {ds : List Dv} {d : Dv}, d ∈ ds → (py d).weight ≤ PyData.weightAll (pyA ds)
  | e :: ds, d, h => by
    rcases List.mem_cons.mp h with z | z
    · subst z; simp only [pyA, PyData.weightAll]; omega
    · have := wtA_mem z; simp only [pyA, PyData.weightAll]; omega
theorem dpA_mem : ∀ {ds : List Dv} {d : Dv}, d ∈ ds → (py d).depth ≤ PyData.depthAll (pyA ds)
  | e :: ds, d, h => by
    rcases List.mem_cons.mp h with z | z
    · subst z; simp only [pyA, PyData.depthAll]; omega
    · have := dpA_mem z; simp only [pyA, PyData.depthAll]; omega
theorem wtA_app : ∀ (ds es : List Dv), PyData.weightAll (pyA (ds ++ es)) = PyData.weightAll (pyA ds) + PyData.weightAll (pyA es)
  | [], es => by simp [pyA, PyData.weightAll]
  | d :: ds, es => by have := wtA_app ds es; simp only [List.cons_append, pyA, PyData.weightAll]; omega
theorem dpA_app : ∀ (ds es : List Dv), PyData.depthAll (pyA (ds ++ es)) = max (PyData.depthAll (pyA ds)) (PyData.depthAll (pyA es))
  | [], es => by simp [pyA, PyData.depthAll]
  | d :: ds, es => by have := dpA_app ds es; simp only [List.cons_append, pyA, PyData.depthAll]; omega
theorem okA_app {ds es : List Dv} : okA (ds ++ es) = true ↔ okA ds = true ∧ okA es = true := by
  simp only [okA_iff, List.mem_append]
  exact ⟨fun h => ⟨fun d hd => h d (.inl hd), fun d hd => h d (.inr hd)⟩, fun h d hd => hd.elim (h.1 d) (h.2 d)⟩
theorem len_wtA : ∀ ds : List Dv, ds.length ≤ PyData.weightAll (pyA ds)
  | [] => Nat.le_refl _
  | d :: ds => by have := len_wtA ds; simp only [pyA, PyData.weightAll, List.length_cons]; omega
theorem Ok.item {m k : Nat} {ds : List Dv} {d : Dv} (h : Ok m k (.tup ds)) (hd : d ∈ ds) : Ok m k d := by
  have h1 := h.ok
  have h2 := h.wt
  have h3 := h.dp
  simp only [okD, py, PyData.weight, PyData.depth] at h1 h2 h3
  exact ⟨okA_iff.mp h1 d hd, Nat.le_trans (wtA_mem hd) h2, by have := dpA_mem hd; omega⟩
/-- of any parts, in a tuple or a list -/
theorem Ok.tup {m k : Nat} {ds : List Dv} (h1 : okA ds = true) (h2 : PyData.weightAll (pyA ds) ≤ m) (h3 : PyData.depthAll (pyA ds) + 1 ≤ k) : Ok m k (.tup ds) := ⟨by simpa only [okD] using h1, by simpa only [py, PyData.weight] using h2, by simpa only [py, PyData.depth] using h3⟩
theorem Ok.lst {m k : Nat} {ds : List Dv} (h1 : okA ds = true) (h2 : PyData.weightAll (pyA ds) ≤ m) (h3 : PyData.depthAll (pyA ds) + 1 ≤ k) : Ok m k (.lst ds) := ⟨by simpa only [okD] using h1, by simpa only [py, PyData.weight] using h2, by simpa only [py, PyData.depth] using h3⟩
theorem Ok.tupA {m k : Nat} {ds : List Dv} (h : Ok m k (.tup ds)) : okA ds = true ∧ PyData.weightAll (pyA ds) ≤ m ∧ PyData.depthAll (pyA ds) + 1 ≤ k := ⟨by simpa only [okD] using h.ok, by simpa only [py, PyData.weight] using h.wt, by simpa only [py, PyData.depth] using h.dp⟩
theorem Ok.lstA {m k : Nat} {ds : List Dv} (h : Ok m k (.lst ds)) : okA ds = true ∧ PyData.weightAll (pyA ds) ≤ m ∧ PyData.depthAll (pyA ds) + 1 ≤ k := ⟨by simpa only [okD] using h.ok, by simpa only [py, PyData.weight] using h.wt, by simpa only [py, PyData.depth] using h.dp⟩
theorem Ok.str {m k : Nat} {x : Str} (h : PyData.strOk x = true) (l : x.cps.size ≤ m) : Ok m k (.str x) := ⟨by simpa only [okD] using h, by simpa only [py, PyData.weight] using l, by simp only [py, PyData.depth]; omega⟩
theorem Ok.strA {m k : Nat} {x : Str} (h : Ok m k (.str x)) : PyData.strOk x = true ∧ x.cps.size ≤ m := ⟨by simpa only [okD] using h.ok, by simpa only [py, PyData.weight] using h.wt⟩
theorem Ok.bl {m k : Nat} {b : Bool} : Ok m k (.bl b) := ⟨rfl, by simp only [py, PyData.weight]; omega, by simp only [py, PyData.depth]; omega⟩
theorem Ok.non {m k : Nat} : Ok m k .non := ⟨rfl, by simp only [py, PyData.weight]; omega, by simp only [py, PyData.depth]; omega⟩
theorem Ok.int {m k : Nat} {i : Int} (h : i.natAbs.log2 < 900) (l : i.natAbs.log2 + 1 ≤ m) : Ok m k (.int i) := ⟨by simpa [okD] using h, by simp only [py, PyData.weight]; split <;> omega, by simp only [py, PyData.depth]; omega⟩
theorem Ok.intA {m k : Nat} {i : Int} (h : Ok m k (.int i)) : i.natAbs.log2 < 900 ∧ i.natAbs.log2 ≤ m := by
  have h1 := h.ok
  have h2 := h.wt
  simp only [okD, decide_eq_true_eq] at h1
  simp only [py, PyData.weight] at h2
  refine ⟨h1, ?_⟩
  by_cases q : i = 0
  · subst q; simp
  · have : (i == 0) = false := by simpa using q
    rw [this] at h2
    simp only [Bool.false_eq_true, if_false] at h2
    omega
theorem log2_succ (n : Nat) : (n + 1).log2 ≤ n.log2 + 1 := by
  by_cases h : n = 0
  · subst h; decide
  · have h1 : n < 2 ^ (n.log2 + 1) := Nat.lt_log2_self
    have h2 : n + 1 < 2 ^ (n.log2 + 2) := by
      have e : 2 ^ (n.log2 + 2) = 2 ^ (n.log2 + 1) * 2 := Nat.pow_succ ..
      have := Nat.pos_of_ne_zero (Nat.ne_of_gt (Nat.two_pow_pos (n.log2 + 1)))
      omega
    have h3 := (Nat.log2_lt (by omega : n + 1 ≠ 0)).mpr h2
    omega
theorem log2_le {a b : Nat} (h : a ≤ b) : a.log2 ≤ b.log2 := by
  by_cases q : a = 0
  · subst q; simp
  · have h1 : b < 2 ^ (b.log2 + 1) := Nat.lt_log2_self
    have := (Nat.log2_lt q).mpr (Nat.lt_of_le_of_lt h h1)
    omega
theorem Ok.near {m k : Nat} {i j : Int} (h : Ok m k (.int i)) (l : m < 899) (hj : j.natAbs ≤ i.natAbs + 1) : Ok (m + 2) k (.int j) := by
  have h1 := h.intA
  have h2 := Nat.le_trans (log2_le hj) (log2_succ _)
  exact .int (by omega) (by omega)
end DL

set_option Elab.async false
set_option linter.all false
set_option maxRecDepth 100000
set_option maxHeartbeats 2000000
/-! D16: the drawing deck. -/
namespace DL
open PySem PySem.Spec L2
section
variable {c : Cn} {n : Nat} {env : DL.Env} {N : DN} {te : TE} {i : Nat} {kb : Str}
theorem Rel.deck {B : Addr → Prop} {H : Hp} {σ : L2.St} (R : Rel c B n H σ env) (hi : env[i]? = some (some (.fz (.deck kb)))) : ∃ p, c.wd = some p ∧ p.kb = kb ∧ σ[i]? = some (some (.ref p.dk)) := by
  obtain ⟨v, e, h⟩ := R.fz i _ hi
  cases h with
  | deck w => exact ⟨_, w, rfl, e⟩
theorem val_draws {kb : Str} (h : kb ≠ "draws") {a b d : V} : valV ([(Sum.inr "cells", a), (Sum.inr kb, b), (Sum.inr "draws", d)] : List (Key × V)) (Sum.inr "draws" : Key) = some d := by
  unfold valV
  have h1 : ¬ ((Sum.inr ("cells" : Str) : Key) = Sum.inr ("draws" : Str)) := by decide +kernel
  have h2 : ¬ ((Sum.inr kb : Key) = Sum.inr ("draws" : Str)) := fun z => h (Sum.inr.inj z)
  simp [List.find?, h1, h2]
theorem val_kb {kb : Str} (h : kb ≠ "cells") {a b d : V} : valV ([(Sum.inr "cells", a), (Sum.inr kb, b), (Sum.inr "draws", d)] : List (Key × V)) (Sum.inr kb : Key) = some b := by
  unfold valV
  have h2 : ¬ ((Sum.inr ("cells" : Str) : Key) = Sum.inr kb) := fun z => h (Sum.inr.inj z).symm
  simp [List.find?, h2]
theorem val_cells {kb : Str} {a b d : V} : valV ([(Sum.inr "cells", a), (Sum.inr kb, b), (Sum.inr "draws", d)] : List (Key × V)) (Sum.inr "cells" : Key) = some a := by
  unfold valV
  simp [List.find?]
theorem put_draws {kb : Str} (h : kb ≠ "draws") {a b d e : V} : putK ([(Sum.inr "cells", a), (Sum.inr kb, b), (Sum.inr "draws", d)] : List (Key × V)) (Sum.inr "draws" : Key) e = ([(Sum.inr "cells", a), (Sum.inr kb, b), (Sum.inr "draws", e)] : List (Key × V)) := by
  unfold putK
  have h1 : ¬ ((Sum.inr ("cells" : Str) : Key) = Sum.inr ("draws" : Str)) := by decide +kernel
  have h2 : ¬ ((Sum.inr kb : Key) = Sum.inr ("draws" : Str)) := fun z => h (Sum.inr.inj z)
  simp [h1, h2]
/-- the deck is turned: what may change -/
theorem Rel.turnDeck {B : Addr → Prop} {H H' : Hp} {σ : L2.St} {m : Nat} (R : Rel c B n H σ env) (e : ∀ a o, H a = some o → ¬ Dk c.wd a → H' a = some o) (w : WOk c.wd m H') : Rel c B m H' σ env ∧ Ext0 c.wd H H' := ⟨R.ext e w, e⟩
/-- deck["draws"] -/
theorem ed_draws {R : Nat → Dv → Prop} (hi : env[i]? = some (some (.fz (.deck kb)))) (hk : kb ≠ "draws") (h : ∀ k : Int, 0 ≤ k → k + n ≤ lim → R n (.int k)) : ED c (tDGet (tVar i) (tC (.str "draws"))) n env R := fun B H σ r Q q => by
  obtain ⟨p, hp, rfl, e⟩ := r.deck hi
  obtain ⟨ne, m, k, cs, h1, h2, l, m0, m1, k0, k1⟩ := r.wok p hp
  refine ⟨_, e, p.dk, .int k, rfl, .inl ⟨_, Sum.inr "draws", .inl h1, rfl, (val_draws hk).symm⟩, q _ H n _ r (Ext0.refl _ _) (.int k) (h k k0 k1)⟩
/-- deck["mixed"] -/
theorem ed_mixed {R : Nat → Dv → Prop} (hi : env[i]? = some (some (.fz (.deck kb)))) (hk : kb ≠ "cells") (h : ∀ m : Int, 0 ≤ m → m < 4294967296 → R n (.int m)) : ED c (tDGet (tVar i) (tC (.str kb))) n env R := fun B H σ r Q q => by
  obtain ⟨p, hp, rfl, e⟩ := r.deck hi
  obtain ⟨ne, m, k, cs, h1, h2, l, m0, m1, k0, k1⟩ := r.wok p hp
  refine ⟨_, e, p.dk, .int m, rfl, .inl ⟨_, Sum.inr p.kb, .inl h1, rfl, (val_kb hk).symm⟩, q _ H n _ r (Ext0.refl _ _) (.int m) (h m m0 m1)⟩
/-- deck["draws"] = deck["draws"] + 1 -/
theorem sd_bump (hi : env[i]? = some (some (.fz (.deck kb)))) (hk : kb ≠ "draws") (hn : 1 ≤ n) (h : N.nx (n - 1) env) :
    SD c (sDPut (tVar i) (tC (.str "draws")) (tOp (rAddV c.K) (tDGet (tVar i) (tC (.str "draws"))) (tC (.int 1)))) n env N := fun B H σ b r D l => by
  obtain ⟨p, hp, rfl, e⟩ := r.deck hi
  obtain ⟨ne, m, k, cs, h1, h2, lc, m0, m1, k0, k1⟩ := r.wok p hp
  refine ⟨_, e, p.dk, .int k, rfl, .inl ⟨_, Sum.inr "draws", .inl h1, rfl, (val_draws hk).symm⟩, .inl (.inl ⟨k, 1, rfl, rfl, ?_⟩)⟩
  refine ⟨_, e, p.dk, _, rfl, DPut.k (k := Sum.inr "draws") h1 (by show 3 < sizeLine; decide), ?_⟩
  rw [put_draws hk]
  have hd : Dk c.wd p.dk := ⟨p, hp, .inl rfl⟩
  have keep : ∀ a o, H a = some o → ¬ Dk c.wd a → upd H p.dk (.dK [(Sum.inr "cells", .ref p.cl), (Sum.inr p.kb, .int m), (Sum.inr "draws", .int (k + 1))]) a = some o := fun a o q z => by
    rw [upd_ne (show a ≠ p.dk from fun y => z (y ▸ hd))]
    exact q
  have w : WOk c.wd (n - 1) (upd H p.dk (.dK [(Sum.inr "cells", .ref p.cl), (Sum.inr p.kb, .int m), (Sum.inr "draws", .int (k + 1))])) := fun q hq => by
    rw [hp] at hq
    cases hq
    exact ⟨ne, m, k + 1, cs, upd_same, by rw [upd_ne ne.symm]; exact h2, by omega, m0, m1, by omega, by omega⟩
  obtain ⟨r2, e2⟩ := r.turnDeck keep w
  exact l.nx B _ σ (n - 1) env (Step.ext r e2) b r2 h
theorem shaped_ints (ns : List Int) : SeqAt.shaped (py (.lst (ns.map Dv.int))) = true := by
  have h1 : ∀ ns : List Int, PyData.canLayAll0 (pyA (ns.map Dv.int)) = true := fun ns => by
    induction ns with
    | nil => rfl
    | cons a r ih => simp [pyA, py, PyData.canLayAll0, PyData.canLay0, ih]
  have h2 : ∀ ns : List Int, PyData.depthAll (pyA (ns.map Dv.int)) = 0 := fun ns => by
    induction ns with
    | nil => rfl
    | cons a r ih => simp [pyA, py, PyData.depthAll, PyData.depth, ih]
  simp [SeqAt.shaped, py, PyData.canLay0, PyData.depth, h1, h2]
theorem plain_ints (ns : List Int) : plain (.lst (ns.map Dv.int)) = true := by
  have h1 : ∀ ns : List Int, plainA (ns.map Dv.int) = true := fun ns => by
    induction ns with
    | nil => rfl
    | cons a r ih => simp [plainA, plain, ih]
  simp [plain, h1]
theorem eqv_ints_nil (ns : List Int) : PyData.eqv (py (.lst (ns.map Dv.int))) (py (.lst [])) = ns.isEmpty := by
  cases ns <;> simp [py, pyA, PyData.eqv, PyData.eqvAll]
/-- if deck["cells"] != []: .. -/
def tCells (i : Nat) : TE := tDGet (tVar i) (tC (.str "cells"))
theorem sd_cells {j : Nat} {u : TS} (pop : TE) (hpop : pop = tBM0 c.K "list" rPop (tDGet (tVar i) (tC (.str "cells"))) ∨ pop = tCB (fun xs H Q => (∃ i, xs = [.int i] ∧ Q (.int i) H) ∨ ∃ k, xs = [.bl k] ∧ Q (.int (if k then 1 else 0)) H) (tCons (tBM0 c.K "list" rPop (tDGet (tVar i) (tC (.str "cells")))) tNil))
    (hi : env[i]? = some (some (.fz (.deck kb)))) (h1 : ∀ z : Int, SD c u n (env.set j (some (.fz (.int z)))) N) (h2 : N.nx n env) :
    SD c (tIfS (tTest (tOp (rEqV c.K true) (tDGet (tVar i) (tC (.str "cells"))) (tLst tNil))) (tSeq (tAsg pop (gName j)) u) tNext) n env N := fun B H σ b r D l => by
  obtain ⟨p, hp, rfl, e⟩ := r.deck hi
  obtain ⟨ne, m, k, cs, hd, hc, lc, m0, m1, k0, k1⟩ := r.wok p hp
  have get : ∀ {H : Hp}, H p.dk = some (.dK [(Sum.inr "cells", .ref p.cl), (Sum.inr p.kb, .int m), (Sum.inr "draws", .int k)]) → DGet H p.dk (.str "cells") (some (.ref p.cl)) := fun {H} hd => .inl ⟨_, Sum.inr "cells", .inl hd, rfl, val_cells.symm⟩
  refine ⟨_, e, p.dk, .ref p.cl, rfl, get hd, (by show 0 ≤ sizeLine; decide), fun q hq => ?_⟩
  have s : Same H (upd H q (.lst [])) := same_new hq _
  have r1 := r.same s
  have t1 : Dt none (fun _ => False) c.K (upd H q (.lst [])) (.ref p.cl) (.lst (cs.map Dv.int)) := .lst ⟨id, s _ _ hc⟩ (dta_ints cs)
  have t2 : Dt none (fun _ => False) c.K (upd H q (.lst [])) (.ref q) (.lst []) := .lst ⟨id, upd_same⟩ .nil
  refine .inl (.inr ⟨none, fun _ => False, _, _, t1, t2, plain_ints cs, rfl, shaped_ints cs, rfl, _, rfl, ?_⟩)
  rw [eqv_ints_nil]
  cases cs with
  | nil => exact iteF (l.nx B _ σ n env (Step.ext r (Ext0.same s)) b r1 h2)
  | cons z0 zs =>
    refine iteT ?_
    have nel : (z0 :: zs) ≠ [] := by simp
    have eL : (z0 :: zs).map V.int = ((z0 :: zs).dropLast.map V.int) ++ [V.int ((z0 :: zs).getLast nel)] := by
      rw [← List.map_singleton, ← List.map_append, List.dropLast_concat_getLast]
    have last : ((z0 :: zs).map V.int)[((z0 :: zs).map V.int).length - 1]? = some (V.int ((z0 :: zs).getLast nel)) := by
      rw [← List.getLast?_eq_getElem?, List.getLast?_map, List.getLast?_eq_some_getLast nel]
      rfl
    have kd : Dk c.wd p.cl := ⟨p, hp, .inr rfl⟩
    let H2 := upd (upd H q (.lst [])) p.cl (.lst (((z0 :: zs).map V.int).dropLast))
    have keep : ∀ a o, upd H q (.lst []) a = some o → ¬ Dk c.wd a → H2 a = some o := fun a o qa z => by
      show upd _ _ _ a = _
      rw [upd_ne (show a ≠ p.cl from fun y => z (y ▸ kd))]
      exact qa
    have w : WOk c.wd n H2 := fun q' hq' => by
      rw [hp] at hq'
      cases hq'
      refine ⟨ne, m, k, (z0 :: zs).dropLast, ?_, ?_, ?_, m0, m1, k0, k1⟩
      · show upd _ _ _ p.dk = _
        rw [upd_ne ne]
        exact s _ _ hd
      · show upd _ _ _ p.cl = _
        rw [upd_same, List.map_dropLast]
      · rw [List.length_dropLast]
        omega
    obtain ⟨r2, e2⟩ := r1.turnDeck keep w
    have fin : tSeq (tAsg (tC (.int ((z0 :: zs).getLast nel))) (gName j)) u D σ H2 := by
      have r3 := r2.set j (v := .int ((z0 :: zs).getLast nel)) (.int _)
      exact h1 _ B H2 _ b r3 D (l.later ((Step.ext r (Ext0.same s)).trans (Step.ext r1 e2)))
    rcases hpop with rfl | rfl
    · exact ⟨_, e, p.dk, .ref p.cl, rfl, get (s _ _ hd), .inl ⟨rfl, _, .inl (.inl (s _ _ hc))⟩, p.cl, _, _, rfl, rfl, s _ _ hc, last, fin⟩
    · exact ⟨_, e, p.dk, .ref p.cl, rfl, get (s _ _ hd), .inl ⟨rfl, _, .inl (.inl (s _ _ hc))⟩, p.cl, _, _, rfl, rfl, s _ _ hc, last, .inl ⟨_, rfl, fin⟩⟩
/-- deck["cells"].append(e) -/
theorem sd_push (hi : env[i]? = some (some (.fz (.deck kb)))) (h : ED c te n env fun n1 d => ∃ z : Int, d = .int z ∧ 1 ≤ n1 ∧ N.nx (n1 - 1) env) :
    SD c (tDrop (tBM c.K "list" rAppend (tDGet (tVar i) (tC (.str "cells"))) (tCons te tNil))) n env N := fun B H σ b r D l => by
  obtain ⟨p, hp, rfl, e⟩ := r.deck hi
  obtain ⟨ne, m, k, cs, hd, hc, lc, m0, m1, k0, k1⟩ := r.wok p hp
  refine ⟨_, e, p.dk, .ref p.cl, rfl, .inl ⟨_, Sum.inr "cells", .inl hd, rfl, val_cells.symm⟩, .inl ⟨rfl, _, .inl (.inl hc)⟩, ?_⟩
  refine h B H σ r _ fun v H1 n1 d r1 e1 h1 ⟨z, ed, hn, kk⟩ => ?_
  subst ed
  cases h1
  obtain ⟨ne, m, k, cs, hd, hc, lc, m0, m1, k0, k1⟩ := r1.wok p hp
  have kd : Dk c.wd p.cl := ⟨p, hp, .inr rfl⟩
  refine ⟨p.cl, _, _, rfl, rfl, hc, by rw [List.length_map]; exact Nat.lt_of_le_of_lt (by omega : cs.length ≤ 8000000) (by decide), ?_⟩
  let H2 := upd H1 p.cl (.lst (cs.map V.int ++ [V.int z]))
  have keep : ∀ a o, H1 a = some o → ¬ Dk c.wd a → H2 a = some o := fun a o qa z => by
    show upd _ _ _ a = _
    rw [upd_ne (show a ≠ p.cl from fun y => z (y ▸ kd))]
    exact qa
  have w : WOk c.wd (n1 - 1) H2 := fun q' hq' => by
    rw [hp] at hq'
    cases hq'
    refine ⟨ne, m, k, cs ++ [z], ?_, ?_, ?_, m0, m1, k0, by omega⟩
    · show upd _ _ _ p.dk = _
      rw [upd_ne ne]
      exact hd
    · show upd _ _ _ p.cl = _
      rw [upd_same, List.map_append]
      rfl
    · rw [List.length_append, List.length_singleton]
      omega
  obtain ⟨r2, e2⟩ := r1.turnDeck keep w
  exact l.nx B H2 σ (n1 - 1) env ((Step.ext r e1).trans (Step.ext r1 e2)) b r2 kk
end
/-- no promise at all -/
theorem fnG_no {P : Program} {w : World} {K : PySem.W.Frag} {mg : Str → Option Value} {base : Heap} {k : Nat} {f : Addr} {fd : FuncData} {ps : List Str} {C : Ct} (h : ∀ n ds R, ¬ C n ds R) : FnG P w K mg base CX0 k f fd ps (spD K C) :=
  ⟨fun _ _ _ _ ⟨_, _, _, _, _, _, _, _, _, hC, _⟩ => (h _ _ _ hC).elim, fun _ _ _ _ _ _ _ _ _ _ _ _ _ _ ⟨_, _, _, _, _, _, _, _, _, hC, _⟩ => (h _ _ _ hC).elim⟩
end DL

set_option Elab.async false
set_option linter.all false
set_option maxRecDepth 100000
set_option maxHeartbeats 2000000
/-! D17: comprehensions and for loops, item by item. -/
namespace DL
open PySem PySem.Spec L2
/-- a comprehension over these items -/
def LcU (c : Cn) (g : TG) (vs : List Nat) (tt : TT) (te : TE) (env : DL.Env) : List Dv → Nat → List Dv → (Nat → List Dv → Prop) → Prop
  | [], n, acc, K => K n acc
  | d :: ds, n, acc, K => GD c g vs d (wipeD env vs) fun env2 => TD c tt n env2 fun n2 b => if b = true then ED c te n2 env2 fun n3 y => LcU c g vs tt te env ds n3 (acc ++ [y]) K else LcU c g vs tt te env ds n2 acc K
/-- a for loop over these items -/
def ForU (c : Cn) (g : TG) (vs : List Nat) (tb : TS) (N : DN) : List Dv → Nat → DL.Env → Prop
  | [], n, env => N.nx n env
  | d :: ds, n, env => GD c g vs d env fun env2 => SD c tb n env2 { nx := fun n e => ForU c g vs tb N ds n e, rt := N.rt, bk := N.nx, ct := fun n e => ForU c g vs tb N ds n e }
section
variable {c : Cn} {n : Nat} {env : DL.Env} {N : DN} {te : TE} {tt : TT} {tb : TS} {wi : TI} {g : TG} {vs : List Nat}
theorem td_mono {R R' : Nat → Bool → Prop} (h : TD c tt n env R) (k : ∀ n b, R n b → R' n b) : TD c tt n env R' := fun B H σ r Q q => h B H σ r Q fun b H' n' x y z => q b H' n' x y (k _ _ z)
theorem gd_mono {d : Dv} {R R' : DL.Env → Prop} (h : GD c g vs d env R) (k : ∀ e, R e → R' e) : GD c g vs d env R' := fun B n H σ v r hd Q q => h B n H σ v r hd Q fun σ2 e2 x y z => q σ2 e2 x y (k _ z)
theorem ed_lcU {R : Nat → Dv → Prop} (h : WD c wi n env fun n0 items => items.length ≤ sizeLine ∧ LcU c g vs tt te env items n0 [] fun n1 ds => R n1 (.lst ds)) : ED c (tLc wi g tt te vs) n env R := by
  refine ed_lc (g := g) (vs := vs) fun B H σ r k q => h B H σ r k fun J H' n' items r1 e1 w1 ⟨hl, hu⟩ => q J H' n' items r1 e1 w1 ?_
  refine ⟨fun i n1 acc => acc.length ≤ i ∧ LcU c g vs tt te env (items.drop i) n1 acc fun n1 ds => R n1 (.lst ds), ⟨Nat.le_refl _, by simpa using hu⟩, fun i n1 acc d hi ⟨ha, hj⟩ => ?_, fun n1 acc ⟨ha, hj⟩ => ?_⟩
  · obtain ⟨hlt, hd⟩ := List.getElem?_eq_some_iff.mp hi
    rw [List.drop_eq_getElem_cons hlt, hd] at hj
    refine gd_mono hj fun e2 h2 => td_mono h2 fun n2 b h3 => ?_
    cases b with
    | true => exact iteT (ed_mono (show ED c te n2 e2 _ from h3) fun n3 y h4 => ⟨by omega, by rw [List.length_append]; exact Nat.add_le_add_right ha 1, h4⟩)
    | false => exact iteF ⟨by omega, h3⟩
  · rw [List.drop_length] at hj
    exact hj
theorem sd_monoN {N N' : DN} {t : TS} (h : SD c t n env N) (a : ∀ n e, N.nx n e → N'.nx n e) (b : ∀ n d, N.rt n d → N'.rt n d) (d : ∀ n e, N.bk n e → N'.bk n e) (e : ∀ n e, N.ct n e → N'.ct n e) : SD c t n env N' := sd_mono h a b d e
theorem sd_forU (h : WD c wi n env fun n0 items => ForU c g vs tb N items n0 env) : SD c (tFor wi g tb) n env N := by
  refine sd_for (g := g) (vs := vs) fun B H σ r k q => h B H σ r k fun J H' n' items r1 e1 w1 hu => q J H' n' items r1 e1 w1 ?_
  refine ⟨fun i n1 e1 => ForU c g vs tb N (items.drop i) n1 e1, by simpa using hu, fun i n1 e1 d hi hj => ?_, fun n1 e1 hj => ?_⟩
  · obtain ⟨hlt, hd⟩ := List.getElem?_eq_some_iff.mp hi
    have hj : ForU c g vs tb N (items.drop i) n1 e1 := hj
    rw [List.drop_eq_getElem_cons hlt, hd] at hj
    exact hj
  · have hj : ForU c g vs tb N (items.drop items.length) n1 e1 := hj
    rw [List.drop_length] at hj
    exact hj
/-- each item by itself, no draw -/
theorem lcU_map {items : List Dv} {K : Nat → List Dv → Prop} {b : Dv → Bool} {f : Dv → Dv} {acc : List Dv} (h : ∀ d ∈ items, GD c g vs d (wipeD env vs) fun env2 => TD c tt n env2 fun n2 b' => n2 = n ∧ b' = b d ∧ (b d = true → ED c te n env2 fun n3 y => n3 = n ∧ y = f d)) (k : K n (acc ++ (items.filter b).map f)) :
    LcU c g vs tt te env items n acc K := by
  induction items generalizing acc with
  | nil => simpa [LcU] using k
  | cons d ds ih =>
    refine gd_mono (h d List.mem_cons_self) fun e2 h2 => td_mono h2 fun n2 b' ⟨e, eb, h3⟩ => ?_
    subst e
    have ih' : ∀ acc, K n2 (acc ++ (ds.filter b).map f) → LcU c g vs tt te env ds n2 acc K := fun acc k => ih (fun d hd => h d (List.mem_cons_of_mem _ hd)) k
    by_cases q : b d = true
    · rw [eb, q]
      refine iteT (ed_mono (h3 q) fun n3 y ⟨e3, e4⟩ => ?_)
      subst e3
      subst e4
      refine ih' _ ?_
      rw [List.filter_cons_of_pos q, List.map_cons] at k
      simpa using k
    · have q' : b d = false := by simpa using q
      rw [eb, q']
      refine iteF (ih' _ ?_)
      rw [List.filter_cons_of_neg q] at k
      exact k
theorem lcU_nil {acc : List Dv} {K : Nat → List Dv → Prop} (k : K n acc) : LcU c g vs tt te env [] n acc K := k
theorem lcU_cons {acc ds : List Dv} {d : Dv} {K : Nat → List Dv → Prop} (k : GD c g vs d (wipeD env vs) fun env2 => TD c tt n env2 fun n2 b => if b = true then ED c te n2 env2 fun n3 y => LcU c g vs tt te env ds n3 (acc ++ [y]) K else LcU c g vs tt te env ds n2 acc K) : LcU c g vs tt te env (d :: ds) n acc K := k
theorem forU_nil (k : N.nx n env) : ForU c g vs tb N [] n env := k
theorem forU_cons {ds : List Dv} {d : Dv} (k : GD c g vs d env fun env2 => SD c tb n env2 { nx := fun n e => ForU c g vs tb N ds n e, rt := N.rt, bk := N.nx, ct := fun n e => ForU c g vs tb N ds n e }) : ForU c g vs tb N (d :: ds) n env := k
theorem wd_strU {R : Nat → List Dv → Prop} (h : ED c te n env fun n1 d => ∃ x, d = .str x ∧ R n1 (signs x)) : WD c (iStr te) n env R := wd_str h
end
end DL

set_option Elab.async false
set_option linter.all false
set_option maxRecDepth 100000
set_option maxHeartbeats 2000000
/-! D18: more words for walking trees; forgetful ones. -/
namespace DL
open PySem PySem.Spec L2
section
variable {c : Cn} {n : Nat} {env : DL.Env} {R : Dv → Prop}
theorem par2_mk {d e : Dv} {A : Dv → Dv → Prop} (h : A d e) : ∃ d' e', [d, e] = [d', e'] ∧ A d' e' := ⟨d, e, rfl, h⟩
theorem par3_mk {d e f : Dv} {A : Dv → Dv → Dv → Prop} (h : A d e f) : ∃ d' e' f', [d, e, f] = [d', e', f'] ∧ A d' e' f' := ⟨d, e, f, rfl, h⟩
/-- what is left of a division, forgotten but for its bounds -/
theorem om_any {i j : Int} (l : 0 < j) (k : ∀ r : Int, 0 ≤ r → r < j → R (.int r)) : OD c (rI (fun _ j => 0 < j) fun i j => .int (i % j)) (.int i) (.int j) R :=
  od_mod l (k _ (Int.emod_nonneg _ (by omega)) (Int.emod_lt_of_pos _ l))
theorem om_mul {i j : Int} (l : CMul i j) (k : ∀ r : Int, r = i * j → R (.int r)) : OD c rMulU (.int i) (.int j) R := od_mul l (k _ rfl)
theorem cm_r {i j : Int} (h1 : -(2 ^ 64) < j) (h2 : j < 2 ^ 64) : CMul i j := .inr ⟨h1, h2⟩
theorem ex1 {d : Dv} {A : Dv → Prop} (h : A d) : ∃ d', d = d' ∧ A d' := ⟨d, rfl, h⟩
theorem of_div {i j : Int} (h1 : 0 < j) (h2 : j < 1073741824) (k : R (.int (i / j))) : OD c (rI CDiv fun i j => .int (i / j)) (.int i) (.int j) R := od_fdiv ⟨h1, h2⟩ k
theorem op_lit {i j : Int} (h1 : 0 ≤ j ∧ j ≤ 1000000 ∧ i.natAbs < 2 ^ 64) (k : R (.int (i ^ j.toNat))) : OD c (rI CPow fun i j => .int (i ^ j.toNat)) (.int i) (.int j) R := od_pow h1 k
theorem exI {i : Int} {m : Nat} {A : Prop} (h : 1 ≤ m) (k : A) : ∃ z, Dv.int i = Dv.int z ∧ 1 ≤ m ∧ A := ⟨i, rfl, h, k⟩
theorem sd_retL {te : TE} {N : DN} (h : ED c te n env fun n1 d => ∃ m, m ≤ n1 ∧ N.rt m d) : SD c (tRet te) n env N := sd_ret (fun B H σ r Q q => h B H σ r Q fun v H' n' d r1 e1 h1 ⟨m, l, k⟩ => q v H' m d (r1.less l) e1 h1 k)
theorem pd_int {i : Int} {A : Int → Prop} (h : A i) : ∃ j, Dv.int i = Dv.int j ∧ A j := ⟨i, rfl, h⟩
theorem sl_scr {ns : List Int} {lo hi : Option Int} (h : R (.lst ((ns.drop (HT.sIx ns.length 0 lo)).take (HT.sIx ns.length ns.length hi - HT.sIx ns.length 0 lo) |>.map Dv.int))) : SlD (.scr ns) lo hi R := h
theorem sl_lst {ds : List Dv} {lo hi : Option Int} (h : R (.lst (cutD ds lo hi))) : SlD (.lst ds) lo hi R := h
theorem sl_tup {ds : List Dv} {lo hi : Option Int} (h : R (.tup (cutD ds lo hi))) : SlD (.tup ds) lo hi R := h
theorem sl_str {z : Str} {lo hi : Option Int} (l : z.length ≤ sizeLine) (h : R (.str (cutS z lo hi))) : SlD (.str z) lo hi R := ⟨l, h⟩
theorem rv_lst {ds : List Dv} (h : R (.lst ds.reverse)) : revD (.lst ds) R := h
theorem rv_tup {ds : List Dv} (h : R (.tup ds.reverse)) : revD (.tup ds) R := h
theorem rv_str {z : Str} (l : z.length ≤ sizeLine) (h : R (.str (revS z))) : revD (.str z) R := ⟨l, h⟩
theorem cd_listL {ds : List Dv} (k : R (.lst ds)) : CD c (rListA c.K) [.lst ds] R := cd_listA rfl k
theorem cd_listT {ds : List Dv} (k : R (.lst ds)) : CD c (rListA c.K) [.tup ds] R := cd_listA rfl k
theorem key_s {x : Str} {A : Key → Prop} (h : A (.inr x)) : ∃ k, keyD (.str x) = some k ∧ A k := ⟨_, rfl, h⟩
theorem key_i {i : Int} {A : Key → Prop} (h : A (.inl i)) : ∃ k, keyD (.int i) = some k ∧ A k := ⟨_, rfl, h⟩
theorem at_nat {α : Type} {xs : List α} {j : Int} (h0 : 0 ≤ j) (h : j.toNat < xs.length) : atI xs j = some xs[j.toNat] := by
  unfold atI ixN
  rw [if_pos (by omega), if_pos (by omega)]
  show xs[j.toNat]? = _
  rw [List.getElem?_eq_getElem h]
theorem andN {m : Nat} {A : Prop} (h : 1 ≤ m) (k : A) : 1 ≤ m ∧ A := ⟨h, k⟩
theorem forU_inv {g : TG} {vs : List Nat} {tb : TS} {N : DN} {items : List Dv} (J : Nat → DL.Env → Prop) (h0 : J n env) (step : ∀ d ∈ items, ∀ n env, J n env → GD c g vs d env fun env2 => SD c tb n env2 { nx := J, rt := N.rt, bk := N.nx, ct := J }) (fin : ∀ n env, J n env → N.nx n env) : ForU c g vs tb N items n env := by
  induction items generalizing n env with
  | nil => exact fin _ _ h0
  | cons d ds ih =>
    have ih' : ∀ n env, J n env → ForU c g vs tb N ds n env := fun n e h => ih h fun d hd => step d (List.mem_cons_of_mem _ hd)
    exact gd_mono (step d List.mem_cons_self n env h0) fun e2 h2 => sd_mono h2 (fun n e h => ih' n e h) (fun _ _ h => h) (fun _ _ h => h) (fun n e h => ih' n e h)
theorem lcU_inv {g : TG} {vs : List Nat} {tt : TT} {te : TE} {items : List Dv} {acc : List Dv} {K : Nat → List Dv → Prop} (J : Nat → List Dv → Prop) (h0 : J n acc) (step : ∀ d ∈ items, ∀ n acc, J n acc → GD c g vs d (wipeD env vs) fun env2 => TD c tt n env2 fun n2 b => if b = true then ED c te n2 env2 fun n3 y => J n3 (acc ++ [y]) else J n2 acc) (fin : ∀ n acc, J n acc → K n acc) : LcU c g vs tt te env items n acc K := by
  induction items generalizing n acc with
  | nil => exact fin _ _ h0
  | cons d ds ih =>
    have ih' : ∀ n acc, J n acc → LcU c g vs tt te env ds n acc K := fun n e h => ih h fun d hd => step d (List.mem_cons_of_mem _ hd)
    refine gd_mono (step d List.mem_cons_self n acc h0) fun e2 h2 => td_mono h2 fun n2 b h3 => ?_
    cases b with
    | true => exact iteT (ed_mono (show ED c te n2 e2 _ from h3) fun n3 y h4 => ih' _ _ h4)
    | false => exact iteF (ih' _ _ h3)
theorem ov_bb {a b : Bool} (k : R (.bl (a == b))) : OD c (rEqV c.K false) (.bl a) (.bl b) R := ov_b (by rw [show decide (a = b) = (a == b) from by cases a <;> cases b <;> rfl]; exact k)
theorem nv_bb {a b : Bool} (k : R (.bl (a != b))) : OD c (rEqV c.K true) (.bl a) (.bl b) R := nv_b (by rw [show (!decide (a = b)) = (a != b) from by cases a <;> cases b <;> rfl]; exact k)
/-- isinstance(x, T), told -/
def isO (T : String) (d : Dv) : Option Bool := if (tyD d).isSome = true then some (isK T d) else none
theorem is_at {T : String} {d : Dv} {b : Bool} {A : Dv → Prop} (h : isO T d = some b) (k : A (.bl b)) : (tyD d).isSome = true ∧ A (.bl (isK T d)) := by
  unfold isO at h
  by_cases q : (tyD d).isSome = true
  · rw [if_pos q] at h
    cases h
    exact ⟨q, k⟩
  · rw [if_neg q] at h
    cases h
theorem ite_t {A B : Prop} (h : A) : if true = true then A else B := iteT h
theorem ite_f {A B : Prop} (h : B) : if false = true then A else B := iteF h
theorem ite_nt {A B : Prop} (h : B) : if (!true) = true then A else B := iteF h
theorem ite_nf {A B : Prop} (h : A) : if (!false) = true then A else B := iteT h
theorem dget_mk {es : List (Key × Dv)} {dk v : Dv} {k : Key} {A : Dv → Prop} (h1 : keyD dk = some k) (h2 : lkD es k = some v) (h : A v) : ∃ es' k' v', Dv.dic es = .dic es' ∧ keyD dk = some k' ∧ lkD es' k' = some v' ∧ A v' := ⟨es, k, v, rfl, h1, h2, h⟩
theorem disp_mk {es es' : List (Key × Dv)} {A : List (Key × Dv) → Prop} (l : es.length ≤ 15) (e : mergeD [] es = es') (h : A es') : es.length ≤ 15 ∧ ∃ es', mergeD [] es = es' ∧ A es' := ⟨l, es', e, h⟩
theorem ed_disp2 {trs : List (TE × TE)} {R : Nat → Dv → Prop} (h : PPD c trs n env fun n1 es => es.length ≤ 15 ∧ ∃ es', mergeD [] es = es' ∧ R n1 (.dic es')) : ED c (tDisp trs) n env R :=
  ed_disp fun B H σ r Q q => h B H σ r Q fun kvs H' n' es r1 e1 h1 ⟨l, es', e, k⟩ => q kvs H' n' es r1 e1 h1 ⟨l, by rw [e]; exact k⟩
theorem ex_lst {ds : List Dv} {A : List Dv → Prop} (h : A ds) : ∃ ds', Dv.lst ds = .lst ds' ∧ A ds' := ⟨ds, rfl, h⟩
theorem ex_tup {ds : List Dv} {A : List Dv → Prop} (h : A ds) : ∃ ds', Dv.tup ds = .tup ds' ∧ A ds' := ⟨ds, rfl, h⟩
theorem ex_str {x : Str} {A : Str → Prop} (h : A x) : ∃ y, Dv.str x = .str y ∧ A y := ⟨x, rfl, h⟩
theorem not_not_b {b : Bool} {A : Bool → Prop} (h : A b) : A (!!b) := by rw [Bool.not_not]; exact h
theorem disp_same {es : List (Key × Dv)} {A : List (Key × Dv) → Prop} (l : es.length ≤ 15) (e : mergeD [] es = es) (h : A es) : es.length ≤ 15 ∧ ∃ es', mergeD [] es = es' ∧ A es' := ⟨l, es, e, h⟩
def strsOf : List Dv → Option (List Str)
  | [] => some []
  | .str x :: ds => match strsOf ds with
    | some l => some (x :: l)
    | none => none
  | _ => none
theorem strs_map : ∀ {ds : List Dv} {ys : List Str}, strsOf ds = some ys → ds = ys.map Dv.str
  | [], ys, h => by cases h; rfl
  | .str x :: ds, ys, h => by
    unfold strsOf at h
    split at h
    · rename_i l hl
      cases h
      rw [strs_map hl, List.map_cons]
    · cases h
  | .non :: _, _, h | .bl _ :: _, _, h | .int _ :: _, _, h | .tup _ :: _, _, h | .lst _ :: _, _, h | .dic _ :: _, _, h | .ins _ _ :: _, _, h | .deck _ :: _, _, h | .scr _ :: _, _, h => by simp [strsOf] at h
theorem ed_join2 {ta tb : TE} {R : Nat → Dv → Prop} (h : ED c ta n env fun n1 d => ∃ a, d = .str a ∧ ED c tb n1 env fun n2 e => ∃ ys z, seqD e = some (ys.map Dv.str) ∧ (ys.map (·.length)).sum + ys.length * a.length ≤ 16777216 ∧ Txt.join a ys = z ∧ R n2 (.str z)) : ED c (tM1 (rJoin c.K) ta tb) n env R :=
  ed_join (ed_mono h fun n1 d ⟨a, e, k⟩ => ⟨a, e, ed_mono k fun n2 e2 ⟨ys, z, h1, h2, h3, h4⟩ => ⟨ys, h1, h2, by rw [h3]; exact h4⟩⟩)
theorem join_mk {a z : Str} {ds : List Dv} {ys : List Str} {A : Str → Prop} (h : strsOf ds = some ys) (l : (ys.map (·.length)).sum + ys.length * a.length ≤ 16777216) (e : Txt.join a ys = z) (k : A z) : ∃ ys z, seqD (.lst ds) = some (ys.map Dv.str) ∧ (ys.map (·.length)).sum + ys.length * a.length ≤ 16777216 ∧ Txt.join a ys = z ∧ A z := ⟨ys, z, by rw [strs_map h]; rfl, l, e, k⟩
theorem ed_is2 {te : TE} {T : String} {R : Nat → Dv → Prop} (hT : T ∈ ["bool", "int", "str", "tuple", "list", "dict"]) (h : ED c te n env fun n1 d => ∃ b, isO T d = some b ∧ R n1 (.bl b)) : ED c (tCB (rIsi c.K) (tCons te (tCons (tC (.ty T)) tNil))) n env R :=
  ed_is hT (ed_mono h fun n d ⟨b, h1, h2⟩ => is_at h1 h2)
theorem is_mk {T : String} {d : Dv} {b : Bool} {A : Bool → Prop} (h : isO T d = some b) (k : A b) : ∃ b, isO T d = some b ∧ A b := ⟨b, h, k⟩
theorem sd_forA {wi : TI} {g : TG} {tb : TS} {N : DN} (h : WD c wi n env fun n0 items => ForU c g (List.range 64) tb N items n0 env) : SD c (tFor wi g tb) n env N := sd_forU h
theorem sd_asgA {te : TE} {g : TG} {N : DN} (h : ED c te n env fun n1 d => GD c g (List.range 64) d env (N.nx n1)) : SD c (tAsg te g) n env N := sd_asgG h
theorem tru_b {b : Bool} {A : Bool → Prop} (h : A b) : ∃ b', tru (.bl b) = some b' ∧ A b' := ⟨b, rfl, h⟩
theorem tru_i {i : Int} {A : Bool → Prop} (h : A (i != 0)) : ∃ b', tru (.int i) = some b' ∧ A b' := ⟨_, rfl, h⟩
theorem tru_l {ds : List Dv} {A : Bool → Prop} (h : A (!ds.isEmpty)) : ∃ b', tru (.lst ds) = some b' ∧ A b' := ⟨_, rfl, h⟩
theorem tru_t {ds : List Dv} {A : Bool → Prop} (h : A (!ds.isEmpty)) : ∃ b', tru (.tup ds) = some b' ∧ A b' := ⟨_, rfl, h⟩
theorem tru_n {A : Bool → Prop} (h : A false) : ∃ b', tru .non = some b' ∧ A b' := ⟨_, rfl, h⟩
theorem gd_unlU {k : Nat} {gs : TGs} {vs : List Nat} {ds : List Dv} {R : DL.Env → Prop} (hl : ds.length = k) (h : GDs c gs vs ds env R) : GD c (gUnl c.K k gs) vs (.lst ds) env R := gd_unl hl h
end
/-- a comprehension over these items, its list in the end -/
def LcV (c : Cn) (g : TG) (vs : List Nat) (tt : TT) (te : TE) (env : DL.Env) : List Dv → Nat → (Nat → List Dv → Prop) → Prop
  | [], n, K => K n []
  | d :: ds, n, K => GD c g vs d (wipeD env vs) fun env2 => TD c tt n env2 fun n2 b => if b = true then ED c te n2 env2 fun n3 y => LcV c g vs tt te env ds n3 fun n l => K n (y :: l) else LcV c g vs tt te env ds n2 K
section
variable {c : Cn} {n : Nat} {env : DL.Env} {te : TE} {tt : TT} {wi : TI} {g : TG} {vs : List Nat}
theorem lcV_mono : ∀ (items : List Dv) (n : Nat) (K K' : Nat → List Dv → Prop), LcV c g vs tt te env items n K → (∀ n l, l.length ≤ items.length → K n l → K' n l) → LcV c g vs tt te env items n K'
  | [], n, K, K', h, k => k _ _ (Nat.le_refl _) h
  | d :: ds, n, K, K', h, k => by
    refine gd_mono h fun e2 h2 => td_mono h2 fun n2 b h3 => ?_
    cases b with
    | true => exact iteT (ed_mono (show ED c te n2 e2 _ from h3) fun n3 y h4 => lcV_mono ds n3 _ _ h4 fun n l hl hk => k n (y :: l) (by simpa using hl) hk)
    | false => exact iteF (lcV_mono ds n2 _ _ h3 fun n l hl hk => k n l (by simp only [List.length_cons]; omega) hk)
theorem lcV_U : ∀ (items : List Dv) (n : Nat) (acc : List Dv) (K : Nat → List Dv → Prop), LcV c g vs tt te env items n (fun n l => K n (acc ++ l)) → LcU c g vs tt te env items n acc K
  | [], n, acc, K, h => by
    have h : K n (acc ++ []) := h
    rw [List.append_nil] at h
    exact h
  | d :: ds, n, acc, K, h => by
    refine gd_mono h fun e2 h2 => td_mono h2 fun n2 b h3 => ?_
    cases b with
    | true => exact iteT (ed_mono (show ED c te n2 e2 _ from h3) fun n3 y h4 => lcV_U ds n3 _ K (lcV_mono _ _ _ _ h4 fun n l _ hk => by rw [List.append_assoc]; exact hk))
    | false => exact iteF (lcV_U ds n2 acc K h3)
theorem ed_lcV {R : Nat → Dv → Prop} (h : WD c wi n env fun n0 items => items.length ≤ sizeLine ∧ LcV c g vs tt te env items n0 fun n1 ds => R n1 (.lst ds)) : ED c (tLc wi g tt te vs) n env R :=
  ed_lcU fun B H σ r k q => h B H σ r k fun J H' n' items r1 e1 w1 ⟨hl, hu⟩ => q J H' n' items r1 e1 w1 ⟨hl, lcV_U _ _ _ _ hu⟩
theorem lcV_nil {K : Nat → List Dv → Prop} (k : K n []) : LcV c g vs tt te env [] n K := k
theorem lcV_cons {ds : List Dv} {d : Dv} {K : Nat → List Dv → Prop} (k : GD c g vs d (wipeD env vs) fun env2 => TD c tt n env2 fun n2 b => if b = true then ED c te n2 env2 fun n3 y => LcV c g vs tt te env ds n3 fun n l => K n (y :: l) else LcV c g vs tt te env ds n2 K) : LcV c g vs tt te env (d :: ds) n K := k
/-- each item by itself, no draw -/
theorem lcV_map {items : List Dv} {K : Nat → List Dv → Prop} (b : Dv → Bool) (f : Dv → Dv) (h : ∀ d ∈ items, GD c g vs d (wipeD env vs) fun env2 => TD c tt n env2 fun n2 b' => n2 = n ∧ b' = b d ∧ (b d = true → ED c te n env2 fun n3 y => n3 = n ∧ y = f d)) (k : K n ((items.filter b).map f)) :
    LcV c g vs tt te env items n K := by
  induction items generalizing K with
  | nil => exact k
  | cons d ds ih =>
    refine gd_mono (h d List.mem_cons_self) fun e2 h2 => td_mono h2 fun n2 b' ⟨e, eb, h3⟩ => ?_
    subst e
    have ih' : ∀ K : Nat → List Dv → Prop, K n2 ((ds.filter b).map f) → LcV c g vs tt te env ds n2 K := fun K k => ih (fun d hd => h d (List.mem_cons_of_mem _ hd)) k
    by_cases q : b d = true
    · rw [eb, q]
      refine iteT (ed_mono (h3 q) fun n3 y ⟨e3, e4⟩ => ?_)
      subst e3
      subst e4
      rw [List.filter_cons_of_pos q, List.map_cons] at k
      exact ih' _ k
    · have q' : b d = false := by simpa using q
      rw [eb, q']
      rw [List.filter_cons_of_neg q] at k
      exact iteF (ih' _ k)
/-- what each gives, and what stays -/
theorem lcV_inv {items : List Dv} {K : Nat → List Dv → Prop} (J : Nat → Prop) (P : Dv → Prop) (h0 : J n) (step : ∀ d ∈ items, ∀ n, J n → GD c g vs d (wipeD env vs) fun env2 => TD c tt n env2 fun n2 b => if b = true then ED c te n2 env2 fun n3 y => J n3 ∧ P y else J n2)
    (fin : ∀ n l, J n → (∀ y ∈ l, P y) → l.length ≤ items.length → K n l) : LcV c g vs tt te env items n K := by
  induction items generalizing n K with
  | nil => exact fin _ _ h0 (fun _ z => nomatch z) (Nat.le_refl _)
  | cons d ds ih =>
    have ih' : ∀ n (K : Nat → List Dv → Prop), J n → (∀ n l, J n → (∀ y ∈ l, P y) → l.length ≤ ds.length → K n l) → LcV c g vs tt te env ds n K := fun n K h f => ih h (fun d hd => step d (List.mem_cons_of_mem _ hd)) f
    refine gd_mono (step d List.mem_cons_self n h0) fun e2 h2 => td_mono h2 fun n2 b h3 => ?_
    cases b with
    | true => exact iteT (ed_mono (show ED c te n2 e2 _ from h3) fun n3 y ⟨h4, h5⟩ => ih' _ _ h4 fun n l hj hp hl => fin n (y :: l) hj (fun z hz => (List.mem_cons.mp hz).elim (fun e => e ▸ h5) (hp z)) (by simpa using hl))
    | false => exact iteF (ih' _ _ h3 fun n l hj hp hl => fin n l hj hp (by simp only [List.length_cons]; omega))
def tk (b : Bool) (d : Dv) : List Dv := if b = true then [d] else []
/-- the item's part is kept or not: no branch -/
theorem lcV_consM {ds : List Dv} {d δ : Dv} {β : Bool} {K : Nat → List Dv → Prop} (k : GD c g vs d (wipeD env vs) fun env2 => TD c tt n env2 fun n2 b => n2 = n ∧ b = β ∧ ED c te n env2 fun n3 y => n3 = n ∧ y = δ) (k2 : LcV c g vs tt te env ds n fun n l => K n (tk β δ ++ l)) : LcV c g vs tt te env (d :: ds) n K := by
  refine gd_mono k fun e2 h2 => td_mono h2 fun n2 b ⟨e1, eb, h3⟩ => ?_
  subst e1
  subst eb
  cases b with
  | true => exact iteT (ed_mono h3 fun n3 y ⟨e3, ey⟩ => by subst e3; subst ey; exact k2)
  | false => exact iteF k2
theorem same1 {m : Nat} {b : Bool} {A : Prop} (h : A) : m = m ∧ b = b ∧ A := ⟨rfl, rfl, h⟩
theorem wd_rangeL {ta : TA} {R : Nat → List Dv → Prop} (h : AD c ta n env fun n1 ds => ∃ j : Int, ds = [.int j] ∧ -(2 ^ 62) ≤ j ∧ j < 2 ^ 62 ∧ ∃ items, rints 0 j.toNat = items ∧ R n1 items) : WD c (iRng1 ta) n env R :=
  wd_range1 fun B H σ r Q q => h B H σ r Q fun vs H' n' ds r1 e1 h1 ⟨j, a, b, d, items, e, k⟩ => q vs H' n' ds r1 e1 h1 ⟨j, a, b, d, by rw [e]; exact k⟩
theorem rng_mk {j : Int} {items : List Dv} {A : List Dv → Prop} (h : -(2 ^ 62) ≤ j ∧ j < 2 ^ 62) (e : rints 0 j.toNat = items) (k : A items) : ∃ j' : Int, [Dv.int j] = [.int j'] ∧ -(2 ^ 62) ≤ j' ∧ j' < 2 ^ 62 ∧ ∃ items, rints 0 j'.toNat = items ∧ A items := ⟨j, rfl, h.1, h.2, items, e, k⟩
theorem ix_s {R : Dv → Prop} {z : Str} {i : Int} {a : Nat} (l : z.length ≤ 100000) (e : L2.atI z.cps.toList i = some a) (k : R (.str ⟨#[a]⟩)) : OD c (rIx c.K) (.str z) (.int i) R := od_ixs (Nat.le_trans l (by decide)) e k
theorem lcV_consY {ds : List Dv} {d : Dv} {K : Nat → List Dv → Prop} (k : GD c g vs d (wipeD env vs) fun env2 => ED c te n env2 fun n3 y => LcV c g vs tYes te env ds n3 fun n l => K n (y :: l)) : LcV c g vs tYes te env (d :: ds) n K := lcV_cons (gd_mono k fun e2 h => td_yes (iteT h))
end
/-! ### the locals, written out -/
section
variable {c : Cn} {n : Nat} {env : DL.Env} {N : DN} {te : TE}
theorem env_mk {i : Nat} {x : Option Dx} {e' : DL.Env} {A : DL.Env → Prop} (h : env.set i x = e') (k : A e') : ∃ e', env.set i x = e' ∧ A e' := ⟨e', h, k⟩
theorem se_0 {a x : Option Dx} {l : DL.Env} : List.set (a :: l) 0 x = x :: l := rfl
theorem se_s {a x : Option Dx} {l l' : DL.Env} {i : Nat} (h : List.set l i x = l') : List.set (a :: l) (i + 1) x = a :: l' := by rw [← h]; rfl
theorem sd_asgN {i : Nat} (h : ED c te n env fun n1 d => ∃ e', env.set i (some (.fz d)) = e' ∧ N.nx n1 e') : SD c (tAsg te (gName i)) n env N := sd_asg (ed_mono h fun n1 d ⟨e', h1, h2⟩ => by rw [h1]; exact h2)
theorem sd_parN {i j : Nat} {t : TA} (h : AD c t n env fun n1 ds => ∃ d e, ds = [d, e] ∧ ∃ e1, env.set i (some (.fz d)) = e1 ∧ ∃ e2, e1.set j (some (.fz e)) = e2 ∧ N.nx n1 e2) : SD c (tPar i j t) n env N :=
  sd_par fun B H σ r Q q => h B H σ r Q fun vs H' n' ds r1 e1 h1 ⟨d, e, ed, a1, h2, a2, h3, k⟩ => q vs H' n' ds r1 e1 h1 ⟨d, e, ed, by rw [h2, h3]; exact k⟩
theorem sd_par3N {i j m : Nat} {t : TA} (h : AD c t n env fun n1 ds => ∃ d e f, ds = [d, e, f] ∧ ∃ e1, env.set i (some (.fz d)) = e1 ∧ ∃ e2, e1.set j (some (.fz e)) = e2 ∧ ∃ e3, e2.set m (some (.fz f)) = e3 ∧ N.nx n1 e3) : SD c (tPar3 i j m t) n env N :=
  sd_par3 fun B H σ r Q q => h B H σ r Q fun vs H' n' ds r1 e1 h1 ⟨d, e, f, ed, a1, h2, a2, h3, a3, h4, k⟩ => q vs H' n' ds r1 e1 h1 ⟨d, e, f, ed, by rw [h2, h3, h4]; exact k⟩
theorem gd_nameN {i : Nat} {vs : List Nat} {d : Dv} {R : DL.Env → Prop} (hi : i ∈ vs) (k : ∃ e', env.set i (some (.fz d)) = e' ∧ R e') : GD c (gName i) vs d env R := gd_name hi (by obtain ⟨e', h1, h2⟩ := k; rw [h1]; exact h2)
end
section
variable {c : Cn} {n : Nat} {env : DL.Env} {N : DN} {i : Nat} {kb : Str}
theorem sd_cellsN {j : Nat} {u : TS} (pop : TE) (hpop : pop = tBM0 c.K "list" rPop (tDGet (tVar i) (tC (.str "cells"))) ∨ pop = tCB (fun xs H Q => (∃ i, xs = [.int i] ∧ Q (.int i) H) ∨ ∃ k, xs = [.bl k] ∧ Q (.int (if k then 1 else 0)) H) (tCons (tBM0 c.K "list" rPop (tDGet (tVar i) (tC (.str "cells")))) tNil))
    (hi : env[i]? = some (some (.fz (.deck kb)))) (h1 : ∀ z : Int, ∃ e', env.set j (some (.fz (.int z))) = e' ∧ SD c u n e' N) (h2 : N.nx n env) :
    SD c (tIfS (tTest (tOp (rEqV c.K true) (tDGet (tVar i) (tC (.str "cells"))) (tLst tNil))) (tSeq (tAsg pop (gName j)) u) tNext) n env N := sd_cells pop hpop hi (fun z => by obtain ⟨e', a, b⟩ := h1 z; rw [a]; exact b) h2
end
/-- a comprehension over these items; env: the locals, its own forgotten -/
def LcW (c : Cn) (g : TG) (vs : List Nat) (tt : TT) (te : TE) (env : DL.Env) : List Dv → Nat → (Nat → List Dv → Prop) → Prop
  | [], n, K => K n []
  | d :: ds, n, K => GD c g vs d env fun env2 => TD c tt n env2 fun n2 b => if b = true then ED c te n2 env2 fun n3 y => LcW c g vs tt te env ds n3 fun n l => K n (y :: l) else LcW c g vs tt te env ds n2 K
section
variable {c : Cn} {n : Nat} {env : DL.Env} {te : TE} {tt : TT} {wi : TI} {g : TG} {vs : List Nat}
theorem lcW_V : ∀ (items : List Dv) (n : Nat) (K : Nat → List Dv → Prop), LcW c g vs tt te (wipeD env vs) items n K = LcV c g vs tt te env items n K
  | [], n, K => rfl
  | d :: ds, n, K => by
    have e : ∀ n K, LcW c g vs tt te (wipeD env vs) ds n K = LcV c g vs tt te env ds n K := fun n K => lcW_V ds n K
    simp only [LcW, LcV, e]
theorem wipe_nil {e' : DL.Env} : wipeD e' [] = e' := rfl
theorem wipe_cons {v : Nat} {vs : List Nat} {e1 e' : DL.Env} (h : wipeD env vs = e1) (k : e1.set v none = e') : wipeD env (v :: vs) = e' := by rw [← k, ← h]; rfl
theorem ed_lcW {R : Nat → Dv → Prop} (h : ∃ e', wipeD env vs = e' ∧ WD c wi n env fun n0 items => items.length ≤ sizeLine ∧ LcW c g vs tt te e' items n0 fun n1 ds => R n1 (.lst ds)) : ED c (tLc wi g tt te vs) n env R := by
  obtain ⟨e', he, h⟩ := h
  refine ed_lcV fun B H σ r k q => h B H σ r k fun J H' n' items r1 e1 w1 ⟨hl, hu⟩ => q J H' n' items r1 e1 w1 ⟨hl, ?_⟩
  rw [← he, lcW_V] at hu
  exact hu
theorem wipe_mk {e' : DL.Env} {A : DL.Env → Prop} (h : wipeD env vs = e') (k : A e') : ∃ e', wipeD env vs = e' ∧ A e' := ⟨e', h, k⟩
theorem lcW_nil {K : Nat → List Dv → Prop} (k : K n []) : LcW c g vs tt te env [] n K := k
theorem lcW_cons {ds : List Dv} {d : Dv} {K : Nat → List Dv → Prop} (k : GD c g vs d env fun env2 => TD c tt n env2 fun n2 b => if b = true then ED c te n2 env2 fun n3 y => LcW c g vs tt te env ds n3 fun n l => K n (y :: l) else LcW c g vs tt te env ds n2 K) : LcW c g vs tt te env (d :: ds) n K := k
theorem lcW_consY {ds : List Dv} {d : Dv} {K : Nat → List Dv → Prop} (k : GD c g vs d env fun env2 => ED c te n env2 fun n3 y => LcW c g vs tYes te env ds n3 fun n l => K n (y :: l)) : LcW c g vs tYes te env (d :: ds) n K := lcW_cons (gd_mono k fun e2 h => td_yes (iteT h))
theorem lcW_consM {ds : List Dv} {d δ : Dv} {β : Bool} {K : Nat → List Dv → Prop} (k : GD c g vs d env fun env2 => TD c tt n env2 fun n2 b => n2 = n ∧ b = β ∧ ED c te n env2 fun n3 y => n3 = n ∧ y = δ) (k2 : LcW c g vs tt te env ds n fun n l => K n (tk β δ ++ l)) : LcW c g vs tt te env (d :: ds) n K := by
  refine gd_mono k fun e2 h2 => td_mono h2 fun n2 b ⟨e1, eb, h3⟩ => ?_
  subst e1
  subst eb
  cases b with
  | true => exact iteT (ed_mono h3 fun n3 y ⟨e3, ey⟩ => by subst e3; subst ey; exact k2)
  | false => exact iteF k2
/-- each item by itself, no draw -/
theorem lcW_map {items : List Dv} {K : Nat → List Dv → Prop} (b : Dv → Bool) (f : Dv → Dv) (h : ∀ d ∈ items, GD c g vs d env fun env2 => TD c tt n env2 fun n2 b' => n2 = n ∧ b' = b d ∧ (b d = true → ED c te n env2 fun n3 y => n3 = n ∧ y = f d)) (k : K n ((items.filter b).map f)) :
    LcW c g vs tt te env items n K := by
  induction items generalizing K with
  | nil => exact k
  | cons d ds ih =>
    refine gd_mono (h d List.mem_cons_self) fun e2 h2 => td_mono h2 fun n2 b' ⟨e, eb, h3⟩ => ?_
    subst e
    have ih' : ∀ K : Nat → List Dv → Prop, K n2 ((ds.filter b).map f) → LcW c g vs tt te env ds n2 K := fun K k => ih (fun d hd => h d (List.mem_cons_of_mem _ hd)) k
    by_cases q : b d = true
    · rw [eb, q]
      refine iteT (ed_mono (h3 q) fun n3 y ⟨e3, e4⟩ => ?_)
      subst e3
      subst e4
      rw [List.filter_cons_of_pos q, List.map_cons] at k
      exact ih' _ k
    · have q' : b d = false := by simpa using q
      rw [eb, q']
      rw [List.filter_cons_of_neg q] at k
      exact iteF (ih' _ k)
/-- what each gives, and what stays -/
theorem lcW_inv {items : List Dv} {K : Nat → List Dv → Prop} (J : Nat → Prop) (P : Dv → Prop) (h0 : J n) (step : ∀ d ∈ items, ∀ n, J n → GD c g vs d env fun env2 => TD c tt n env2 fun n2 b => if b = true then ED c te n2 env2 fun n3 y => J n3 ∧ P y else J n2)
    (fin : ∀ n l, J n → (∀ y ∈ l, P y) → l.length ≤ items.length → K n l) : LcW c g vs tt te env items n K := by
  induction items generalizing n K with
  | nil => exact fin _ _ h0 (fun _ z => nomatch z) (Nat.le_refl _)
  | cons d ds ih =>
    have ih' : ∀ n (K : Nat → List Dv → Prop), J n → (∀ n l, J n → (∀ y ∈ l, P y) → l.length ≤ ds.length → K n l) → LcW c g vs tt te env ds n K := fun n K h f => ih h (fun d hd => step d (List.mem_cons_of_mem _ hd)) f
    refine gd_mono (step d List.mem_cons_self n h0) fun e2 h2 => td_mono h2 fun n2 b h3 => ?_
    cases b with
    | true => exact iteT (ed_mono (show ED c te n2 e2 _ from h3) fun n3 y ⟨h4, h5⟩ => ih' _ _ h4 fun n l hj hp hl => fin n (y :: l) hj (fun z hz => (List.mem_cons.mp hz).elim (fun e => e ▸ h5) (hp z)) (by simpa using hl))
    | false => exact iteF (ih' _ _ h3 fun n l hj hp hl => fin n l hj hp (by simp only [List.length_cons]; omega))
end
end DL

set_option Elab.async false
set_option linter.all false
set_option maxRecDepth 100000
set_option maxHeartbeats 2000000
/-! D19: xs == [], whatever is in xs. -/
namespace DL
open PySem PySem.Spec PyProof.Rows L2
section
variable {X : Cx}
def rEqZ (K : PySem.W.Frag) : R2 := fun x y H Q => ∃ a b xs, x = .ref a ∧ y = .ref b ∧ SqL K H a xs ∧ SqL K H b [] ∧ Q (.bl xs.isEmpty) H
theorem op_eqZ (hu : X.A.units + 64 < cLine) : OpR X (compareOp .Eq) (rEqZ X.K) := by
  intro pins s σ H x y v u Q I rx ry h
  obtain ⟨a, b, xs, rfl, rfl, h1, h2, q⟩ := h
  cases rx
  cases ry
  obtain ⟨its, r1, t1, _⟩ := I.list h1
  obtain ⟨its2, r2, t2, _⟩ := I.list h2
  cases r2
  cases its with
  | nil =>
    cases r1
    exact SeqAt.eq_listAt (e := fun _ => true) t1.isList t2.isList rfl (by omega) (fun j h1 h2 => by simp at h2) ⟨.bl true, H, I, rfl, q⟩
  | cons z zs =>
    cases r1
    exact SeqAt.eq_list_lengthsAt t1.isList t2.isList (by simp) (by omega) ⟨.bl false, H, I, rfl, q⟩
def rEqW (K : PySem.W.Frag) (neg : Bool) : R2 := fun x y H Q => rEqV K neg x y H Q ∨ (neg = false ∧ rEqZ K x y H Q)
theorem op_eqW (hu : X.A.units + 64 < cLine) : OpR X (compareOp .Eq) (rEqW X.K false) := by
  intro pins s σ H x y v u Q I rx ry h
  rcases h with h | ⟨_, h⟩
  · exact op_eqV hu pins s σ H x y v u Q I rx ry h
  · exact op_eqZ hu pins s σ H x y v u Q I rx ry h
end
section
variable {c : Cn} {R : Dv → Prop}
theorem oW {d e : Dv} (h : OD c (rEqV c.K false) d e R) : OD c (rEqW c.K false) d e R := fun B H x y lv hx hy Q q => .inl (h B H x y lv hx hy Q q)
theorem ow_s {a b : Str} (k : R (.bl (decide (a = b)))) : OD c (rEqW c.K false) (.str a) (.str b) R := oW (ov_s k)
theorem ow_i {a b : Int} (k : R (.bl (decide (a = b)))) : OD c (rEqW c.K false) (.int a) (.int b) R := oW (ov_i k)
theorem ow_b {a b : Bool} (k : R (.bl (a == b))) : OD c (rEqW c.K false) (.bl a) (.bl b) R := oW (ov_bb k)
theorem ow_t {d e : Dv} (p : plain d = true ∧ plain e = true ∧ SeqAt.shaped (py d) = true ∧ SeqAt.shaped (py e) = true) (k : R (.bl (PyData.eqv (py d) (py e)))) : OD c (rEqW c.K false) d e R := oW (ov_t p k)
theorem ow_e {ds : List Dv} (k : R (.bl ds.isEmpty)) : OD c (rEqW c.K false) (.tup ds) (.tup []) R := oW (ov_e k)
theorem ow_z {ds : List Dv} (k : R (.bl ds.isEmpty)) : OD c (rEqW c.K false) (.lst ds) (.lst []) R := fun B H x y lv hx hy Q q => by
  cases hx with
  | lst q1 d1 =>
    cases hy with
    | lst q2 d2 =>
      cases d2
      exact .inr ⟨rfl, _, _, _, rfl, rfl, QL.sq q1, QL.sq q2, q _ H _ (Same.refl _) (.bl _) (by rw [d1.empty]; exact k)⟩
end
end DL

set_option Elab.async false
set_option linter.all false
set_option maxRecDepth 100000
set_option maxHeartbeats 2000000
/-! D20: plain values cut, turned, joined. -/
namespace DL
open PySem PySem.Spec L2
theorem okA_sub {ds es : List Dv} (h : ∀ d ∈ es, d ∈ ds) (k : okA ds = true) : okA es = true := okA_iff.mpr fun d hd => okA_iff.mp k d (h d hd)
theorem dpA_le : ∀ {es : List Dv} {m : Nat}, (∀ d ∈ es, (py d).depth ≤ m) → PyData.depthAll (pyA es) ≤ m
  | [], m, _ => by simp [pyA, PyData.depthAll]
  | e :: es, m, h => by
    have h1 := h e List.mem_cons_self
    have h2 := dpA_le (es := es) (m := m) fun d hd => h d (List.mem_cons_of_mem _ hd)
    simp only [pyA, PyData.depthAll]
    omega
theorem dpA_sub {ds es : List Dv} (h : ∀ d ∈ es, d ∈ ds) : PyData.depthAll (pyA es) ≤ PyData.depthAll (pyA ds) := dpA_le fun d hd => dpA_mem (h d hd)
theorem wtA_split (ds : List Dv) (j : Nat) : PyData.weightAll (pyA ds) = PyData.weightAll (pyA (ds.take j)) + PyData.weightAll (pyA (ds.drop j)) := by
  rw [← wtA_app, List.take_append_drop]
theorem wtA_drop (ds : List Dv) (j : Nat) : PyData.weightAll (pyA (ds.drop j)) ≤ PyData.weightAll (pyA ds) := by have := wtA_split ds j; omega
theorem wtA_take (ds : List Dv) (j : Nat) : PyData.weightAll (pyA (ds.take j)) ≤ PyData.weightAll (pyA ds) := by have := wtA_split ds j; omega
theorem wtA_cut (ds : List Dv) (lo hi : Option Int) : PyData.weightAll (pyA (cutD ds lo hi)) ≤ PyData.weightAll (pyA ds) := Nat.le_trans (wtA_take _ _) (wtA_drop _ _)
theorem mem_cut {ds : List Dv} {lo hi : Option Int} {d : Dv} (h : d ∈ cutD ds lo hi) : d ∈ ds := List.mem_of_mem_drop (List.mem_of_mem_take h)
theorem wtA_rev : ∀ ds : List Dv, PyData.weightAll (pyA ds.reverse) = PyData.weightAll (pyA ds)
  | [] => rfl
  | d :: ds => by
    rw [List.reverse_cons, wtA_app, wtA_rev ds]
    simp only [pyA, PyData.weightAll]
    omega
theorem Ok.sub {m k m' : Nat} {ds es : List Dv} (h : Ok m k (.tup ds)) (s : ∀ d ∈ es, d ∈ ds) (w : PyData.weightAll (pyA es) ≤ m') : Ok m' k (.tup es) ∧ Ok m' k (.lst es) := by
  obtain ⟨h1, h2, h3⟩ := h.tupA
  have h4 := dpA_sub s
  exact ⟨.tup (okA_sub s h1) w (by omega), .lst (okA_sub s h1) w (by omega)⟩
theorem Ok.cutT {m k : Nat} {ds : List Dv} (h : Ok m k (.tup ds)) (lo hi : Option Int) : Ok m k (.tup (cutD ds lo hi)) := (h.sub (fun _ => mem_cut) (Nat.le_trans (wtA_cut _ _ _) h.tupA.2.1)).1
theorem Ok.revT {m k : Nat} {ds : List Dv} (h : Ok m k (.tup ds)) : Ok m k (.tup ds.reverse) := (h.sub (fun _ => List.mem_reverse.mp) (by rw [wtA_rev]; exact h.tupA.2.1)).1
theorem Ok.listT {m k : Nat} {ds : List Dv} (h : Ok m k (.tup ds)) : Ok m k (.lst ds) := (h.sub (fun _ z => z) h.tupA.2.1).2
theorem Ok.appT {m k m' k' : Nat} {ds es : List Dv} (h : Ok m k (.tup ds)) (h' : Ok m' k' (.tup es)) : Ok (m + m') (max k k') (.tup (ds ++ es)) := by
  obtain ⟨h1, h2, h3⟩ := h.tupA
  obtain ⟨g1, g2, g3⟩ := h'.tupA
  exact .tup (okA_app.mpr ⟨h1, g1⟩) (by rw [wtA_app]; omega) (by rw [dpA_app]; omega)
theorem Ok.one {m k : Nat} {d : Dv} (h : Ok m k d) : Ok (m + 1) (k + 1) (.tup [d]) := by
  have h1 := h.ok
  have h2 := h.wt
  have h3 := h.dp
  exact .tup (by simpa [okA] using h1) (by simp only [pyA, PyData.weightAll]; omega) (by simp only [pyA, PyData.depthAll]; omega)
/-! ### texts -/
theorem strOk_iff {x : Str} : PyData.strOk x = true ↔ ∀ k ∈ x.cps.toList, k < 0x110000 := by
  unfold PyData.strOk
  rw [← Array.all_toList, List.all_eq_true]
  simp only [decide_eq_true_eq]
theorem strOk_app {x y : Str} (h : PyData.strOk x = true) (g : PyData.strOk y = true) : PyData.strOk (x ++ y) = true := by
  rw [strOk_iff] at *
  intro k hk
  have hk : k ∈ (x.cps ++ y.cps).toList := hk
  rw [Array.toList_append, List.mem_append] at hk
  exact hk.elim (h k) (g k)
theorem strOk_sub {x y : Str} (h : PyData.strOk x = true) (g : ∀ k ∈ y.cps.toList, k ∈ x.cps.toList) : PyData.strOk y = true := by
  rw [strOk_iff] at *
  exact fun k hk => h k (g k hk)
theorem strOk_lit (s : String) : PyData.strOk (Str.ofString s) = true := by
  rw [strOk_iff]
  intro k hk
  rw [PyProof.Rows.signs_ofString] at hk
  obtain ⟨ch, _, rfl⟩ := List.mem_map.mp hk
  have := ch.valid
  unfold Char.toNat
  rcases this with h | h
  · have : ch.val.toNat < 0xd800 := h
    omega
  · exact h.2
theorem cutS_mem {z : Str} {lo hi : Option Int} : ∀ k ∈ (cutS z lo hi).cps.toList, k ∈ z.cps.toList := by
  intro k hk
  unfold cutS at hk
  exact List.mem_of_mem_drop (List.mem_of_mem_take hk)
theorem cutS_ok {z : Str} {lo hi : Option Int} (h : PyData.strOk z = true) : PyData.strOk (cutS z lo hi) = true := strOk_sub h cutS_mem
theorem cutS_len (z : Str) (lo hi : Option Int) : (cutS z lo hi).cps.size ≤ z.cps.size := by
  unfold cutS
  simp only [List.size_toArray, List.length_take, List.length_drop, Array.length_toList]
  omega
theorem revS_ok {z : Str} (h : PyData.strOk z = true) : PyData.strOk (revS z) = true := strOk_sub h fun k hk => by
  unfold revS at hk
  simpa using hk
def okB (m k : Nat) (d : Dv) : Bool := okD d && (decide ((py d).weight ≤ m) && decide ((py d).depth ≤ k))
theorem okB_ok {m k : Nat} {d : Dv} (h : okB m k d = true) : Ok m k d := by
  unfold okB at h
  simp only [Bool.and_eq_true, decide_eq_true_eq] at h
  exact ⟨h.1, h.2.1, h.2.2⟩
theorem okB_all {m k : Nat} {l : List Dv} (h : l.all (okB m k) = true) : ∀ d ∈ l, Ok m k d := fun d hd => okB_ok (List.all_eq_true.mp h d hd)
section
variable {c : Cn} {n : Nat} {env : DL.Env} {R : Dv → Prop}
theorem ed_dnew {R : Nat → Dv → Prop} (k : R n (.dic [])) : ED c tDNewK n env R := fun B H σ r Q q p hp =>
  q _ _ n _ (r.same (same_new hp _)) (Ext0.same (same_new hp _)) (.dic (r.new hp) upd_same .nil) k
theorem od_repP {ds : List Dv} {m : Nat} (hm : m ≤ 1000) (l : ds.length ≤ 10000) (k : ∀ L : List Dv, (∀ d ∈ L, d ∈ ds) → L.length = m * ds.length → R (.lst L)) : OD c rMulU (.lst ds) (.int (m : Int)) R := by
  refine od_rep (by omega) ?_ (k _ (fun d hd => ?_) ?_)
  · have : ds.length * m ≤ 10000 * 1000 := Nat.mul_le_mul l hm
    rw [sizeLine_eq]
    omega
  · obtain ⟨l', h1, h2⟩ := List.mem_flatten.mp hd
    rw [(List.mem_replicate.mp h1).2] at h2
    exact h2
  · have e : ∀ (j : Nat) (l : List Dv), (List.replicate j l).flatten.length = j * l.length := fun j l => by
      induction j with
      | zero => simp
      | succ j ih => rw [List.replicate_succ, List.flatten_cons, List.length_append, ih, Nat.succ_mul]; omega
    exact e _ _
end
end DL

set_option Elab.async false
set_option linter.all false
set_option maxRecDepth 100000
set_option maxHeartbeats 2000000
/-! D21: a law's own def: the deck is made, then used. -/
namespace DL
open PySem PySem.Spec L2
/-- what a law promises of its script -/
def spL (K : PySem.W.Frag) : Sp := fun vs H Q _ => ∃ (a : Addr) (ns : List Int), vs = [.ref a] ∧ SqL K H a (ns.map V.int) ∧ ∀ H', Q (.bl true) H'
theorem qs_of {K : PySem.W.Frag} {H : Hp} {a : Addr} {xs : List V} (h : SqL K H a xs) : QS (fun _ => False) K H a xs := h.imp (fun z => ⟨id, z⟩) id
theorem dtk3 {wd : Wd} {B : Addr → Prop} {K : PySem.W.Frag} {H : Hp} {kvs : List (Key × V)} {kb : Str} {cs : List Int} {m : Int}
    (h : DtK wd B K H kvs [(Sum.inr "cells", .lst (cs.map Dv.int)), (Sum.inr kb, .int m), (Sum.inr "draws", .int 0)]) :
    ∃ cl, kvs = ([(Sum.inr "cells", V.ref cl), (Sum.inr kb, V.int m), (Sum.inr "draws", V.int 0)] : List (Key × V)) ∧ H cl = some (.lst (cs.map V.int)) := by
  cases h with
  | cons h1 h2 =>
    cases h2 with
    | cons h3 h4 =>
      cases h4 with
      | cons h5 h6 =>
        cases h6
        cases h3
        cases h5
        cases h1 with
        | lst q d =>
          cases dta_ints_back d
          exact ⟨_, rfl, q.2⟩
theorem lawD {P : Program} {w : World} {K : PySem.W.Frag} {mg : Str → Option Value} {base : Heap} {k : Nat} {f : Addr} {fd : FuncData} {p x qual kb : Str} {st : Stmt} {NN : List Str} {Cd : Ct} {rest : TS}
    (F : Fun K x qual st f fd) (S : FnScope NN [p] (defScope st)) (hN : 2 ≤ NN.length)
    (hb : ∀ (cdv : Value) (A : Around) (outer : List PySem.Env) (s : Shared) (H : Hp) (E : XK), A.guards = some [] →
      Room k (A.deeper (PyProof.Rows.envOfC qual (defScope st) s.heap.objs.size f cdv)) →
      PSs (cxOf CX0 P w K mg base NN qual (defScope st) f cdv A outer s H E).nox (defBody st) (tSeq (tAsg (tCall (spD K Cd) [] E0 (tCons (tVar 0) tNil)) (gName 1)) rest))
    (hdeck : ∀ n ns R, (∀ (cs : List Int) (m : Int), cs.length ≤ 63 → 0 ≤ m → m < 4294967296 → R n (.dic [(Sum.inr "cells", .lst (cs.map Dv.int)), (Sum.inr kb, .int m), (Sum.inr "draws", .int 0)])) → Cd n [.scr ns] R)
    (hrest : ∀ c : Cn, c.K = K → SD c rest 4000000 (none :: some (.fz (.deck kb)) :: List.replicate (NN.length - 2) none) { nx := fun _ _ => False, rt := fun _ d => d = .bl true }) :
    FnG P w K mg base CX0 (k + 1) f fd [p] (spL K) := by
  refine okG F S (fun vs H Q E ⟨a, ns, e, _⟩ => by rw [e]; rfl) fun cdv A outer s H vs Q E hg hr hsp => ?_
  obtain ⟨a, ns, rfl, hs, hQ⟩ := hsp
  refine ⟨_, (hb cdv A outer s H E hg hr).nox, ?_⟩
  let c0 : Cn := ⟨none, fun _ => False, K, H, fun _ z => z.elim⟩
  have wok0 : WOk none 0 H := fun _ z => nomatch z
  have r0 : Rel c0 (fun _ => False) 0 H (L2.start NN [.ref a]) (startD NN.length [.scr ns]) :=
    rel_start (fun _ z => z.elim) wok0 (fun _ ⟨_, z, _⟩ => nomatch z) (.cons (.scr (qs_of hs)) .nil)
  have e0 : startD NN.length [.scr ns] = some (.fz (.scr ns)) :: List.replicate (NN.length - 1) none := rfl
  have s1 : SD c0 (tAsg (tCall (spD K Cd) [] E0 (tCons (tVar 0) tNil)) (gName 1)) 0 (startD NN.length [.scr ns])
      { nx := fun _ env => ∃ (cs : List Int) (m : Int), cs.length ≤ 63 ∧ 0 ≤ m ∧ m < 4294967296 ∧ env = (startD NN.length [.scr ns]).set 1 (some (.fz (.dic [(Sum.inr "cells", .lst (cs.map Dv.int)), (Sum.inr kb, .int m), (Sum.inr "draws", .int 0)]))), rt := fun _ _ => False } := by
    refine sd_asg (ed_call (c := c0) (ad_cons (ed_var (d := .scr ns) (by rw [e0]; rfl) (ad_nil ?_))))
    exact hdeck _ _ _ fun cs m h1 h2 h3 => ⟨cs, m, h1, h2, h3, rfl⟩
  refine s1 (fun _ => False) H _ (fun _ z => z) r0 _ ⟨fun B2 H2 σ2 n2 env2 _ _ r2 k2 => ?_, fun _ _ _ _ _ _ _ _ z => z.elim, fun _ _ _ _ _ _ _ _ z => z.elim, fun _ _ _ _ _ _ _ z => z.elim⟩
  obtain ⟨cs, m, l1, m0, m1, rfl⟩ := k2
  obtain ⟨v, hv, hd⟩ := r2.fz 1 (.dic [(Sum.inr "cells", .lst (cs.map Dv.int)), (Sum.inr kb, .int m), (Sum.inr "draws", .int 0)]) (by
    rw [List.getElem?_set_self (by rw [e0]; simp; omega)])
  have len2 : σ2.length = NN.length := by rw [r2.len, List.length_set, e0]; simp; omega
  cases hd with
  | @dic dk kvs _ hB hH hK =>
    obtain ⟨cl, rfl, hcl⟩ := dtk3 hK
    have ne : dk ≠ cl := fun z => by
      rw [z, hcl] at hH
      cases hH
    let p : Dek := ⟨dk, cl, kb⟩
    have wok : WOk (some p) 4000000 H2 := fun q hq => by
      cases hq
      exact ⟨ne, m, 0, cs, hH, hcl, by omega, m0, m1, by omega, by decide⟩
    let c1 : Cn := ⟨some p, Dk (some p), K, H2, fun a z => wok.live z⟩
    have r1 : Rel c1 (Dk (some p)) 4000000 H2 σ2 (none :: some (.fz (.deck kb)) :: List.replicate (NN.length - 2) none) := {
      len := by rw [len2]; simp; omega
      wok := wok
      dk := fun _ z => z
      live := fun _ z => wok.live z
      ent := Ext0.refl _ _
      fz := fun i d hi => by
        match i, hi with
        | 1, hi =>
          have hi : some (some (Dx.fz (.deck kb))) = some (some (Dx.fz d)) := hi
          cases hi
          exact ⟨_, hv, .deck (p := p) rfl⟩
        | i + 2, hi =>
          have hi : (List.replicate (NN.length - 2) (none : Option Dx))[i]? = some (some (Dx.fz d)) := hi
          rw [List.getElem?_replicate] at hi
          split at hi <;> cases hi
      own := fun i o hi => by
        match i, hi with
        | 1, hi =>
          have hi : some (some (Dx.fz (.deck kb))) = some (some (Dx.own o)) := hi
          cases hi
        | i + 2, hi =>
          have hi : (List.replicate (NN.length - 2) (none : Option Dx))[i]? = some (some (Dx.own o)) := hi
          rw [List.getElem?_replicate] at hi
          split at hi <;> cases hi
      inj := fun i j o u a hi => by
        match i, hi with
        | 1, hi =>
          have hi : some (some (Dx.fz (.deck kb))) = some (some (Dx.own o)) := hi
          cases hi
        | i + 2, hi =>
          have hi : (List.replicate (NN.length - 2) (none : Option Dx))[i]? = some (some (Dx.own o)) := hi
          rw [List.getElem?_replicate] at hi
          split at hi <;> cases hi }
    refine hrest c1 rfl (Dk (some p)) H2 σ2 (fun _ z => z) r1 _ ⟨fun _ _ _ _ _ _ _ _ z => z.elim, fun _ _ _ _ _ _ _ _ z => z.elim, fun _ _ _ _ _ _ _ _ z => z.elim, fun v H3 n3 d _ _ hd k3 => ?_⟩
    subst k3
    cases hd
    exact hQ H3
end DL

set_option Elab.async false
set_option linter.all false
set_option maxRecDepth 100000
set_option maxHeartbeats 2000000
/-! K59p: turns and motions, plainly. -/
namespace K59
open PySem PySem.Spec L2 DL
structure Tn where
  e : Bool
  p : Bool
  s : Bool
  w : Bool
def cut (b : Bool) (c : Nat) : List Nat := if b = true then [c] else []
def tx (t : Tn) : Str := ⟨(cut t.e 101 ++ cut t.p 112 ++ cut t.s 115 ++ cut t.w 119).toArray⟩
structure Mo where
  t : Tn
  d : Int
  a : Int
def mo (m : Mo) : Dv := .tup [.str (tx m.t), .int m.d, .int m.a]
theorem hs_e (t : Tn) : hs "e" (tx t) = t.e := by rcases t with ⟨_ | _, _ | _, _ | _, _ | _⟩ <;> decide +kernel
theorem hs_p (t : Tn) : hs "p" (tx t) = t.p := by rcases t with ⟨_ | _, _ | _, _ | _, _ | _⟩ <;> decide +kernel
theorem hs_s (t : Tn) : hs "s" (tx t) = t.s := by rcases t with ⟨_ | _, _ | _, _ | _, _ | _⟩ <;> decide +kernel
theorem hs_w (t : Tn) : hs "w" (tx t) = t.w := by rcases t with ⟨_ | _, _ | _, _ | _, _ | _⟩ <;> decide +kernel
def behT (a b : Tn) : Tn := ⟨(if b.w = true then a.p else a.e) != b.e, (if b.w = true then a.e else a.p) != b.p, a.s != b.s, a.w != b.w⟩
def sg (b : Bool) (i : Int) : Int := if b = true then -i else i
def beh (m k : Mo) : Mo := ⟨behT m.t k.t, sg k.t.p (if k.t.w = true then m.a else m.d) + k.d, sg k.t.e (if k.t.w = true then m.d else m.a) + k.a⟩
def back (m : Mo) : Mo := if m.t.w = true then ⟨⟨m.t.p, m.t.e, m.t.s, true⟩, -(sg m.t.e m.a), -(sg m.t.p m.d)⟩ else ⟨m.t, -(sg m.t.p m.d), -(sg m.t.e m.a)⟩
/-- a spot: an end, or a pick -/
structure Sp0 where
  k : Bool
  i : Int
def kd (b : Bool) : Str := if b = true then "end" else "pick"
def spot (s : Sp0) : Dv := .tup [.str (kd s.k), .int s.i]
def led (m : Mo) (s : Sp0) : Sp0 := if (s.k != m.t.w) = true then ⟨true, sg m.t.e s.i + m.a⟩ else ⟨false, sg m.t.p s.i + m.d⟩
theorem kd_end (b : Bool) : decide (kd b = "end") = b := by cases b <;> decide +kernel
theorem beh_assoc (a b c : Mo) : beh (beh a b) c = beh a (beh b c) := by
  obtain ⟨⟨e1, p1, s1, w1⟩, d1, a1⟩ := a
  obtain ⟨⟨e2, p2, s2, w2⟩, d2, a2⟩ := b
  obtain ⟨⟨e3, p3, s3, w3⟩, d3, a3⟩ := c
  simp only [beh, behT, Mo.mk.injEq, Tn.mk.injEq]
  refine ⟨⟨?_, ?_, ?_, ?_⟩, ?_, ?_⟩
  · cases w2 <;> cases w3 <;> cases e1 <;> cases p1 <;> cases e2 <;> cases p2 <;> cases e3 <;> rfl
  · cases w2 <;> cases w3 <;> cases e1 <;> cases p1 <;> cases e2 <;> cases p2 <;> cases p3 <;> rfl
  · cases s1 <;> cases s2 <;> cases s3 <;> rfl
  · cases w1 <;> cases w2 <;> cases w3 <;> rfl
  · cases w2 <;> cases w3 <;> cases p2 <;> cases e2 <;> cases p3 <;> simp [sg] <;> omega
  · cases w2 <;> cases w3 <;> cases p2 <;> cases e2 <;> cases e3 <;> simp [sg] <;> omega
theorem led_beh (m k : Mo) (s : Sp0) : led (beh m k) s = led k (led m s) := by
  obtain ⟨⟨e1, p1, s1, w1⟩, d1, a1⟩ := m
  obtain ⟨⟨e2, p2, s2, w2⟩, d2, a2⟩ := k
  obtain ⟨b, i⟩ := s
  simp only [led, beh, behT]
  cases b <;> cases w1 <;> cases w2 <;> cases e1 <;> cases p1 <;> cases e2 <;> cases p2 <;> simp [sg] <;> omega
def one0 : Mo := ⟨⟨false, false, false, false⟩, 0, 0⟩
theorem beh_back (m : Mo) : beh m (back m) = one0 := by
  obtain ⟨⟨e1, p1, s1, w1⟩, d1, a1⟩ := m
  simp only [back, one0]
  cases w1 <;> cases e1 <;> cases p1 <;> cases s1 <;> simp [sg, beh, behT] <;> omega
theorem back_beh (m : Mo) : beh (back m) m = one0 := by
  obtain ⟨⟨e1, p1, s1, w1⟩, d1, a1⟩ := m
  simp only [back, one0]
  cases w1 <;> cases e1 <;> cases p1 <;> cases s1 <;> simp [sg, beh, behT] <;> omega
theorem back_back (m : Mo) : back (back m) = m := by
  obtain ⟨⟨e1, p1, s1, w1⟩, d1, a1⟩ := m
  simp only [back]
  cases w1 <;> cases e1 <;> cases p1 <;> simp [sg]
theorem mo_one0 : mo one0 = .tup [.str "", .int 0, .int 0] := by
  show Dv.tup [.str (tx one0.t), .int 0, .int 0] = _
  rw [show tx one0.t = "" from by decide +kernel]
def small (b : Nat) (m : Mo) : Prop := m.d.natAbs ≤ b ∧ m.a.natAbs ≤ b
theorem small_beh {b c : Nat} {m k : Mo} (h : small b m) (h2 : small c k) : small (b + c) (beh m k) := by
  obtain ⟨⟨e1, p1, s1, w1⟩, d1, a1⟩ := m
  obtain ⟨⟨e2, p2, s2, w2⟩, d2, a2⟩ := k
  obtain ⟨h1, h3⟩ := h
  obtain ⟨h2, h4⟩ := h2
  simp only at h1 h2 h3 h4
  simp only [small, beh]
  cases w2 <;> cases e2 <;> cases p2 <;> simp [sg] <;> omega
theorem small_back {b : Nat} {m : Mo} (h : small b m) : small b (back m) := by
  obtain ⟨⟨e1, p1, s1, w1⟩, d1, a1⟩ := m
  obtain ⟨h1, h3⟩ := h
  simp only at h1 h3
  simp only [small, back]
  cases w1 <;> cases e1 <;> cases p1 <;> simp [sg] <;> omega
/-! ### which texts are turns -/
def E4 : List Nat := [101, 112, 115, 119]
/-- the text's signs rise, each one of epsw -/
def turnS (x : Str) : Bool := x.cps.toList.all (fun c => decide (c ∈ E4)) && decide (x.cps.toList.Pairwise (· < ·))
def T16 : List Tn := [false, true].flatMap fun e => [false, true].flatMap fun p => [false, true].flatMap fun s => [false, true].map fun w => ⟨e, p, s, w⟩
theorem rise_eq : ∀ (l m : List Nat), l.Pairwise (· < ·) → m.Pairwise (· < ·) → (∀ k, k ∈ l ↔ k ∈ m) → l = m
  | [], [], _, _, _ => rfl
  | [], b :: m, _, _, h => absurd ((h b).mpr List.mem_cons_self) (by simp)
  | a :: l, [], _, _, h => absurd ((h a).mp List.mem_cons_self) (by simp)
  | a :: l, b :: m, hl, hm, h => by
    obtain ⟨l1, l2⟩ := List.pairwise_cons.mp hl
    obtain ⟨m1, m2⟩ := List.pairwise_cons.mp hm
    have ab : a = b := by
      rcases List.mem_cons.mp ((h a).mp List.mem_cons_self) with z | z
      · exact z
      · rcases List.mem_cons.mp ((h b).mpr List.mem_cons_self) with y | y
        · exact y.symm
        · have := m1 a z
          have := l1 b y
          omega
    subst ab
    congr 1
    refine rise_eq l m l2 m2 fun k => ?_
    constructor
    · intro hk
      rcases List.mem_cons.mp ((h k).mp (List.mem_cons_of_mem _ hk)) with z | z
      · have := l1 k hk
        omega
      · exact z
    · intro hk
      rcases List.mem_cons.mp ((h k).mpr (List.mem_cons_of_mem _ hk)) with z | z
      · have := m1 k hk
        omega
      · exact z
def tOf (x : Str) : Tn := ⟨decide (101 ∈ x.cps.toList), decide (112 ∈ x.cps.toList), decide (115 ∈ x.cps.toList), decide (119 ∈ x.cps.toList)⟩
theorem tx_list (t : Tn) : (tx t).cps.toList = cut t.e 101 ++ cut t.p 112 ++ cut t.s 115 ++ cut t.w 119 := rfl
theorem tx_rise (t : Tn) : (tx t).cps.toList.Pairwise (· < ·) ∧ ∀ k ∈ (tx t).cps.toList, k ∈ E4 := by
  rcases t with ⟨_ | _, _ | _, _ | _, _ | _⟩ <;> decide +kernel
theorem turn_tx (t : Tn) : turnS (tx t) = true := by rcases t with ⟨_ | _, _ | _, _ | _, _ | _⟩ <;> decide +kernel
theorem turn_of {x : Str} (h : turnS x = true) : x = tx (tOf x) := by
  unfold turnS at h
  rw [Bool.and_eq_true, List.all_eq_true, decide_eq_true_eq] at h
  obtain ⟨h1, h2⟩ := h
  have e : x.cps.toList = (tx (tOf x)).cps.toList := by
    refine rise_eq _ _ h2 (tx_rise _).1 fun k => ?_
    rw [tx_list]
    simp only [List.mem_append, cut, tOf, decide_eq_true_eq]
    constructor
    · intro hk
      have := h1 k hk
      simp only [E4, decide_eq_true_eq, List.mem_cons, List.not_mem_nil, or_false] at this
      rcases this with rfl | rfl | rfl | rfl <;> simp [hk]
    · rintro (((z | z) | z) | z) <;> (split at z <;> simp at z <;> subst z <;> assumption)
  obtain ⟨⟨l⟩⟩ := x
  show (⟨⟨l⟩⟩ : Str) = ⟨(cut _ 101 ++ cut _ 112 ++ cut _ 115 ++ cut _ 119).toArray⟩
  have e' : l = cut (tOf ⟨⟨l⟩⟩).e 101 ++ cut (tOf ⟨⟨l⟩⟩).p 112 ++ cut (tOf ⟨⟨l⟩⟩).s 115 ++ cut (tOf ⟨⟨l⟩⟩).w 119 := e
  rw [← e']
theorem mem_T16 (t : Tn) : t ∈ T16 := by rcases t with ⟨_ | _, _ | _, _ | _, _ | _⟩ <;> simp [T16]
theorem turn_mem (x : Str) : turnS x = decide (x ∈ T16.map tx) := by
  by_cases h : turnS x = true
  · rw [h, decide_eq_true]
    rw [turn_of h]
    exact List.mem_map_of_mem (mem_T16 _)
  · have h' : turnS x = false := by simpa using h
    rw [h', decide_eq_false]
    intro z
    obtain ⟨t, _, rfl⟩ := List.mem_map.mp z
    exact h (turn_tx t)
end K59

set_option Elab.async false
set_option linter.all false
set_option maxRecDepth 100000
set_option maxHeartbeats 2000000
/-! K59q: list(x) == sorted(set(x)), plainly. -/
namespace K59
open PySem PySem.Spec L2 DL PyProof.Rows
def sg1 (k : Nat) : Str := ⟨#[k]⟩
theorem sgs_eq (x : Str) : sgs x = x.cps.toList.map sg1 := rfl
theorem sg1_inj {a b : Nat} (h : sg1 a = sg1 b) : a = b := by
  have h1 : [a] = [b] := congrArg (fun y : Str => y.cps.toList) h
  exact (List.cons.inj h1).1
theorem rising_le : ∀ (cs : List Nat) (p : Nat), risingS (sg1 p) (cs.map sg1) = true → (p :: cs).Pairwise (· ≤ ·)
  | [], p, _ => by simp
  | k :: r, p, h => by
    have h' : (!ltCps [k] [p] && risingS (sg1 k) (r.map sg1)) = true := h
    rw [Bool.and_eq_true] at h'
    have ih := rising_le r k h'.2
    have hpk : p ≤ k := by
      have := h'.1
      rw [ltCps_eq] at this
      simp only [Bool.not_eq_true', decide_eq_false_iff_not] at this
      by_cases q : k < p
      · exact absurd (List.Lex.rel q) this
      · omega
    refine List.pairwise_cons.mpr ⟨fun y hy => ?_, ih⟩
    rcases List.mem_cons.mp hy with rfl | hy
    · exact hpk
    · have := (List.pairwise_cons.mp ih).1 y hy
      omega
theorem sorted_le : ∀ (cs : List Nat), sortedS (cs.map sg1) = true → cs.Pairwise (· ≤ ·)
  | [], _ => List.Pairwise.nil
  | p :: r, h => rising_le r p h
theorem rise_of : ∀ (l : List Nat), l.Pairwise (· ≤ ·) → l.Nodup → l.Pairwise (· < ·)
  | [], _, _ => List.Pairwise.nil
  | x :: l, h, d => by
    obtain ⟨h1, h2⟩ := List.pairwise_cons.mp h
    obtain ⟨d1, d2⟩ := List.nodup_cons.mp d
    refine List.pairwise_cons.mpr ⟨fun y hy => ?_, rise_of l h2 d2⟩
    have a := h1 y hy
    have b : x ≠ y := fun z => d1 (z ▸ hy)
    omega
/-- the sorted members of a text's signs: codes that rise, the same ones -/
theorem sorted_codes {x : Str} {ys : List Str} (hp : ys.Perm (met [] (sgs x))) (hs : sortedS ys = true) : ∃ cs : List Nat, ys = cs.map sg1 ∧ cs.Pairwise (· < ·) ∧ ∀ k, k ∈ cs ↔ k ∈ x.cps.toList := by
  have hm : ∀ y, y ∈ ys ↔ y ∈ sgs x := fun y => by rw [hp.mem_iff, met_mem]; simp
  have he : ys = (ys.map fun y => y.cps.toList.headD 0).map sg1 := by
    rw [List.map_map]
    conv => lhs; rw [← List.map_id ys]
    refine List.map_congr_left fun y hy => ?_
    obtain ⟨k, _, rfl⟩ := List.mem_map.mp ((hm y).mp hy)
    rfl
  refine ⟨ys.map fun y => y.cps.toList.headD 0, he, ?_, fun k => ?_⟩
  · refine rise_of _ (sorted_le _ (by rw [← he]; exact hs)) ?_
    have nd : ys.Nodup := hp.nodup_iff.mpr (met_nodup _ _ List.nodup_nil)
    rw [he] at nd
    exact (List.Pairwise.of_map sg1 (fun a b hne e => hne (congrArg sg1 e)) nd)
  · constructor
    · intro h
      obtain ⟨y, hy, rfl⟩ := List.mem_map.mp h
      obtain ⟨k, hk, rfl⟩ := List.mem_map.mp ((hm y).mp hy)
      exact hk
    · intro h
      exact List.mem_map.mpr ⟨sg1 k, (hm _).mpr (List.mem_map.mpr ⟨k, h, rfl⟩), rfl⟩
theorem set_eq {x : Str} {ys : List Str} (hp : ys.Perm (met [] (sgs x))) (hs : sortedS ys = true) : decide (sgs x = ys) = decide (x.cps.toList.Pairwise (· < ·)) := by
  obtain ⟨cs, rfl, h1, h2⟩ := sorted_codes hp hs
  refine dec_iff ⟨fun h => ?_, fun h => ?_⟩
  · have e : x.cps.toList = cs := by
      have h3 : x.cps.toList.map sg1 = cs.map sg1 := h
      have h4 := congrArg (List.map fun y : Str => y.cps.toList.headD 0) h3
      rw [List.map_map, List.map_map] at h4
      have e1 : ∀ l : List Nat, l.map ((fun y : Str => y.cps.toList.headD 0) ∘ sg1) = l := fun l => by
        conv => rhs; rw [← List.map_id l]
        rfl
      rwa [e1, e1] at h4
    rw [e]
    exact h1
  · show x.cps.toList.map sg1 = cs.map sg1
    rw [rise_eq _ _ h h1 fun k => (h2 k).symm]
theorem eqv_strs : ∀ as bs : List Str, PyData.eqv (py (.lst (as.map Dv.str))) (py (.lst (bs.map Dv.str))) = decide (as = bs) := by
  have h : ∀ as bs : List Str, PyData.eqvAll (pyA (as.map Dv.str)) (pyA (bs.map Dv.str)) = decide (as = bs) := by
    intro as
    induction as with
    | nil =>
      intro bs
      cases bs <;> simp [pyA, PyData.eqvAll]
    | cons a r ih =>
      intro bs
      cases bs with
      | nil => simp [pyA, PyData.eqvAll]
      | cons b s =>
        simp only [List.map_cons, pyA, PyData.eqvAll, py, PyData.eqv, ih]
        by_cases q : a = b
        · subst q; simp
        · have : (a == b) = false := by simpa using q
          simp [this, q]
  intro as bs
  simp only [py, PyData.eqv]
  exact h as bs
theorem strs_plain : ∀ as : List Str, plain (.lst (as.map Dv.str)) = true := by
  intro as
  simp only [DL.plain]
  induction as with
  | nil => rfl
  | cons a r ih => simpa [plainA, DL.plain] using ih
theorem strs_shaped (as : List Str) (h : ∀ a ∈ as, PyData.strOk a = true) : SeqAt.shaped (py (.lst (as.map Dv.str))) = true := by
  have h1 : PyData.canLayAll0 (pyA (as.map Dv.str)) = true := by
    induction as with
    | nil => rfl
    | cons a r ih =>
      simp only [List.map_cons, pyA, py, PyData.canLayAll0, PyData.canLay0, Bool.and_eq_true]
      exact ⟨h a List.mem_cons_self, ih fun b hb => h b (List.mem_cons_of_mem _ hb)⟩
  have h2 : PyData.depthAll (pyA (as.map Dv.str)) = 0 := by
    clear h h1
    induction as with
    | nil => rfl
    | cons a r ih => simp [pyA, py, PyData.depthAll, PyData.depth, ih]
  unfold SeqAt.shaped
  simp only [py, PyData.canLay0, PyData.depth, h1, h2]
  decide
theorem sg1_ok {x : Str} (h : PyData.strOk x = true) : ∀ y ∈ sgs x, PyData.strOk y = true := by
  intro y hy
  obtain ⟨k, hk, rfl⟩ := List.mem_map.mp hy
  unfold PyData.strOk at h ⊢
  rw [← Array.all_toList, List.all_eq_true] at h
  have := h k hk
  simpa using this
end K59

set_option Elab.async false
set_option linter.all false
set_option maxRecDepth 100000
set_option maxHeartbeats 2000000
namespace K59
open PySem PySem.Spec L2 DL
def topS (i : Nat) : Stmt := PySem.Challenge.pw_loomhold_k59_motions_of_any_value.main.body.getD i (.Pass ⟨0, 0, 0, 0⟩)

structure Txt (K : PySem.W.Frag) (mg : Str → Option Value) : Prop where
  n_all : mg "all" = none
  n_bool : mg "bool" = none
  n_int : mg "int" = none
  n_isinstance : mg "isinstance" = none
  n_len : mg "len" = none
  n_list : mg "list" = none
  n_range : mg "range" = none
  n_repr : mg "repr" = none
  n_set : mg "set" = none
  n_sorted : mg "sorted" = none
  n_str : mg "str" = none
  n_sum : mg "sum" = none
  n_tuple : mg "tuple" = none
  c_LETTERS : ∃ t, mg "LETTERS" = some (.str "epsw" t)
  c_MOTION_PARTS : ∃ t, mg "MOTION_PARTS" = some (.int 3 t)
def wholeD : Dv → Bool
  | .int _ => true
  | _ => false
def turnD : Dv → Bool
  | .str x => turnS x
  | _ => false
def motD : Dv → Bool
  | .tup [a, b, d] => turnD a && (wholeD b && wholeD d)
  | _ => false
def C_is_whole : Ct := fun n ds R => ∃ d, ds = [d] ∧ okD d = true ∧ R n (.bl (wholeD d))
def C_is_turn : Ct := fun n ds R => ∃ d, ds = [d] ∧ Ok 1000 50 d ∧ R n (.bl (turnD d))
def C_is_motion : Ct := fun n ds R => ∃ d, ds = [d] ∧ Ok 1000 50 d ∧ R n (.bl (motD d))
def C_turn_behind : Ct := fun n ds R => ∃ a b : Tn, ds = [.str (tx a), .str (tx b)] ∧ R n (.str (tx (behT a b)))
def C_behind : Ct := fun n ds R => ∃ a b : Mo, ds = [mo a, mo b] ∧ R n (mo (beh a b))
def C_back_of : Ct := fun n ds R => ∃ a : Mo, ds = [mo a] ∧ R n (mo (back a))
def C__law_deck : Ct := fun n ds R => ∃ ns : List Int, ds = [.scr ns] ∧ ∀ (cs : List Int) (m : Int), cs.length ≤ 63 → 0 ≤ m → m < 2147483648 → R n (.dic [(Sum.inr "cells", .lst (cs.map Dv.int)), (Sum.inr "blend", .int m), (Sum.inr "draws", .int 0)])
def C__law_draw : Ct := fun n ds R => ∃ b : Int, ds = [.deck "blend", .int b] ∧ 0 < b ∧ b < 1073741824 ∧ 2 ≤ n ∧ ∀ j : Int, 0 ≤ j → j < b → R (n - 2) (.int j)
def C__law_pick : Ct := fun n ds R => ∃ xs : List Dv, ds = [.deck "blend", .lst xs] ∧ xs ≠ [] ∧ xs.length < 1073741824 ∧ 2 ≤ n ∧ ∀ d ∈ xs, R (n - 2) d
def C__law_led : Ct := fun n ds R => ∃ (a : Mo) (s : Sp0), ds = [mo a, spot s] ∧ R n (spot (led a s))
def C__law_behind : Ct := C_behind
def C__law_turns : Ct := fun n ds R => ds = [] ∧ ∀ ys : List Str, ys.Perm (T16.map tx) → R n (.lst (ys.map Dv.str))
def C__law_motion : Ct := fun n ds R => ds = [.deck "blend"] ∧ 8 ≤ n ∧ ∀ a : Mo, small 20 a → R (n - 8) (mo a)
def C__law_is_motion : Ct := C_is_motion
def C__law_odd : Ct := fun n ds R => ∃ m k d, ds = [.deck "blend", d] ∧ Ok m k d ∧ m ≤ 850 ∧ k ≤ 50 ∧ 2 ≤ n ∧ ∀ d', Ok (2 * m + 150) (k + 1) d' → R (n - 2) d'
def C_bentK (j : Nat) : Ct := fun n ds R => ∃ m k d, ds = [.deck "blend", d] ∧ Ok m k d ∧ m ≤ 850 ∧ k < j ∧ j ≤ 45 ∧ 4 * j + 4 ≤ n ∧ ∀ d', Ok (3 * m + 150) (k + 1) d' → R (n - (4 * j + 4)) d'
def C__law_bent : Ct := C_bentK 40
def C__law_one_right : Ct := fun n ds R => ∃ d, ds = [d] ∧ Ok 1000 50 d ∧ R n (.bl true)
def C__law_two_right : Ct := fun n ds R => ∃ a b : Mo, ds = [mo a, mo b] ∧ small 20 a ∧ small 20 b ∧ R n (.bl true)
def C__law_back_right : Ct := fun n ds R => ∃ a : Mo, ds = [mo a] ∧ small 20 a ∧ R n (.bl true)
/-- f(k=v): no argument by place -/
def kwG {α : Type} (o : List α → List α) : List α → List α → List α
  | [], ks => o ks
  | _ :: _, _ => []
def g_is_motion_thing : List Value → List Value → List Value := kwG id
def gV_is_motion_thing : List V → List V → List V := kwG id
def g_back_of_motion : List Value → List Value → List Value := kwG id
def gV_back_of_motion : List V → List V → List V := kwG id
def g_behind_other_one : List Value → List Value → List Value := kwG List.reverse
def gV_behind_other_one : List V → List V → List V := kwG List.reverse

section
variable {P : Program} {w : World} {K : PySem.W.Frag} {mg : Str → Option Value} {base : Heap}

abbrev s_is_whole : Stmt := topS 3
theorem sc_is_whole : FnScope ["thing"] ["thing"] (defScope s_is_whole) := ⟨rfl, rfl, rfl, by decide +kernel, rfl, by decide +kernel, by decide +kernel⟩
def t_is_whole (K : PySem.W.Frag) : TS :=
    (tRet (tAndV (tCB (rIsi K) (tCons (tVar 0) (tCons (tC (.ty "int")) tNil))) (tNotV (tCB (rIsi K) (tCons (tVar 0) (tCons (tC (.ty "bool")) tNil))))))
set_option maxHeartbeats 4000000 in
theorem d_is_whole (T : Txt K mg) {f : Addr} {cdv : Value} {A : Around} {outer : List PySem.Env} {s : Shared} {H : Hp} {E : XK} (hgd : A.guards = some []) (hr : Room 0 (A.deeper (PyProof.Rows.envOfC "is_whole" (defScope s_is_whole) s.heap.objs.size f cdv))) :
    PSs (cxOf CX0 P w K mg base ["thing"] "is_whole" (defScope s_is_whole) f cdv A outer s H E).nox (defBody s_is_whole) (t_is_whole K) :=
    (pss_one (ps_ret (pe_and (pe_callB call_isi (by rfl) T.n_isinstance (by decide +kernel) (pa_cons (pv 0) (pa_cons (pe_bltn (v := .ty "int") (by rfl) T.n_int (by decide +kernel) rfl) pa_nil))) (pe_one (pe_not (pe_callB call_isi (by rfl) T.n_isinstance (by decide +kernel) (pa_cons (pv 0) (pa_cons (pe_bltn (v := .ty "bool") (by rfl) T.n_bool (by decide +kernel) rfl) pa_nil))))))))
abbrev s_is_turn : Stmt := topS 4
theorem sc_is_turn : FnScope ["thing", "letter"] ["thing"] (defScope s_is_turn) := ⟨rfl, rfl, rfl, by decide +kernel, rfl, by decide +kernel, by decide +kernel⟩
def t_is_turn (K : PySem.W.Frag) : TS :=
    (tSeq (tIfS (tOr (tNot (tB (tCB (rIsi K) (tCons (tVar 0) (tCons (tC (.ty "str")) tNil))))) (tNot (tB (tCB (rAll K) (tCons (tLc (iStr (tVar 0)) (gName 1) tYes (tOp (rInU K false) (tVar 1) (tC (.str "epsw"))) [1]) tNil))))) (tRet (tC (.bl false))) tNext)
    (tRet (tOp (rEqW K false) (tCB (rListA K) (tCons (tVar 0) tNil)) (tSortSet (tVar 0)))))
set_option maxHeartbeats 4000000 in
theorem d_is_turn (T : Txt K mg) {f : Addr} {cdv : Value} {A : Around} {outer : List PySem.Env} {s : Shared} {H : Hp} {E : XK} (hgd : A.guards = some []) (hr : Room 0 (A.deeper (PyProof.Rows.envOfC "is_turn" (defScope s_is_turn) s.heap.objs.size f cdv))) :
    PSs (cxOf CX0 P w K mg base ["thing", "letter"] "is_turn" (defScope s_is_turn) f cdv A outer s H E).nox (defBody s_is_turn) (t_is_turn K) :=
    (pss_cons (ps_if (PW.pt (pw_or (pt_not (pt_val (pe_callB call_isi (by rfl) T.n_isinstance (by decide +kernel) (pa_cons (pv 0) (pa_cons (pe_bltn (v := .ty "str") (by rfl) T.n_str (by decide +kernel) rfl) pa_nil))))) (pw_or1 (pt_not (pt_val (pe_callB (cr_all rfl) (by rfl) T.n_all (by decide +kernel) (pa_cons (pe_lc (own := [("letter", 1)]) rfl sc_is_turn.nd (pi_str (pv 0)) (blkOk_by (N := ["thing", "letter"]) (sc := defScope s_is_turn) (by decide +kernel)) (fun _ _ _ _ _ => (pg_name (i := 1) sc_is_turn.nd rfl (by first | exact .inl rfl | exact .inr rfl))) (fun _ _ _ _ _ => pts_nil) (fun _ _ _ _ _ => (pe_cmpR op_inU (pv 1) (pe_glob rfl T.c_LETTERS.choose_spec ⟨_, rfl⟩) rfl))) pa_nil))))))) (pss_one (ps_ret pe_bl)) pss_nil)
      (pss_one (ps_ret (pe_cmpR (op_eqW hr.units) (pe_callTy (call_listA rfl) (by rfl) T.n_list (by decide +kernel) (pa_cons (pv 0) pa_nil)) (pe_sortSet rfl rfl T.n_sorted rfl T.n_set (pv 0)) (nomark _)))))
abbrev s_is_motion : Stmt := topS 5
theorem sc_is_motion : FnScope ["thing"] ["thing"] (defScope s_is_motion) := ⟨rfl, rfl, rfl, by decide +kernel, rfl, by decide +kernel, by decide +kernel⟩
def t_is_motion (K : PySem.W.Frag) : TS :=
    (tSeq (tIfS (tOr (tNot (tB (tCB (rIsi K) (tCons (tVar 0) (tCons (tC (.ty "tuple")) tNil))))) (tTest (tOp (rEqV K true) (tCB (fun xs H Q => ∃ x n, xs = [x] ∧ LenV K x H n ∧ Q (.int n) H) (tCons (tVar 0) tNil)) (tC (.int 3))))) (tRet (tC (.bl false))) tNext)
    (tRet (tAndV (tCall (spD K C_is_turn) [] E0 (tCons (tOp (rIx K) (tVar 0) (tC (.int 0))) tNil)) (tAndV (tCall (spD K C_is_whole) [] E0 (tCons (tOp (rIx K) (tVar 0) (tC (.int 1))) tNil)) (tCall (spD K C_is_whole) [] E0 (tCons (tOp (rIx K) (tVar 0) (tC (.int 2))) tNil))))))
set_option maxHeartbeats 4000000 in
theorem d_is_motion (T : Txt K mg) {f_is_turn : Addr} {fd_is_turn : FuncData} (D_is_turn : Df P w K mg base 1 "is_turn" ["thing"] C_is_turn f_is_turn fd_is_turn) {f_is_whole : Addr} {fd_is_whole : FuncData} (D_is_whole : Df P w K mg base 1 "is_whole" ["thing"] C_is_whole f_is_whole fd_is_whole) {f : Addr} {cdv : Value} {A : Around} {outer : List PySem.Env} {s : Shared} {H : Hp} {E : XK} (hgd : A.guards = some []) (hr : Room 1 (A.deeper (PyProof.Rows.envOfC "is_motion" (defScope s_is_motion) s.heap.objs.size f cdv))) :
    PSs (cxOf CX0 P w K mg base ["thing"] "is_motion" (defScope s_is_motion) f cdv A outer s H E).nox (defBody s_is_motion) (t_is_motion K) :=
    (pss_cons (ps_if (PW.pt (pw_or (pt_not (pt_val (pe_callB call_isi (by rfl) T.n_isinstance (by decide +kernel) (pa_cons (pv 0) (pa_cons (pe_bltn (v := .ty "tuple") (by rfl) T.n_tuple (by decide +kernel) rfl) pa_nil))))) (pw_or1 (pt_cmpR (op_neV hr.units) (pe_callB call_len (by rfl) T.n_len (by decide +kernel) (pa_cons (pv 0) pa_nil)) (pe_glob rfl T.c_MOTION_PARTS.choose_spec ⟨_, rfl⟩) (nomark _))))) (pss_one (ps_ret pe_bl)) pss_nil)
      (pss_one (ps_ret (pe_and (pe_df D_is_turn hgd (hr.mono (by decide)) rfl (pa_cons (pe_ix ix_seq (pv 0) pe_int (fun _ _ => rfl)) pa_nil)) (pe_and (pe_df D_is_whole hgd (hr.mono (by decide)) rfl (pa_cons (pe_ix ix_seq (pv 0) pe_int (fun _ _ => rfl)) pa_nil)) (pe_one (pe_df D_is_whole hgd (hr.mono (by decide)) rfl (pa_cons (pe_ix ix_seq (pv 0) pe_int (fun _ _ => rfl)) pa_nil))))))))
abbrev s_turn_behind : Stmt := topS 6
theorem sc_turn_behind : FnScope ["turn", "later", "has_e", "has_p", "parts", "letter"] ["turn", "later"] (defScope s_turn_behind) := ⟨rfl, rfl, rfl, by decide +kernel, rfl, by decide +kernel, by decide +kernel⟩
def t_turn_behind (K : PySem.W.Frag) : TS :=
    (tSeq (tPar 2 3 (tCons (tOp (rInU K false) (tC (.str "e")) (tVar 0)) (tCons (tOp (rInU K false) (tC (.str "p")) (tVar 0)) tNil)))
    (tSeq (tIfS (tTest (tOp (rInU K false) (tC (.str "w")) (tVar 1))) (tPar 2 3 (tCons (tVar 3) (tCons (tVar 2) tNil))) tNext)
    (tSeq (tAsg (tDisp (((tC (.str "e")), (tVar 2)) :: (((tC (.str "p")), (tVar 3)) :: (((tC (.str "s")), (tOp (rInU K false) (tC (.str "s")) (tVar 0))) :: (((tC (.str "w")), (tOp (rInU K false) (tC (.str "w")) (tVar 0))) :: []))))) (gName 4))
    (tRet (tM1 (rJoin K) (tC (.str "")) (tLc (iStr (tC (.str "epsw"))) (gName 5) (tTest (tOp (rEqV K true) (tDGet (tVar 4) (tVar 5)) (tOp (rInU K false) (tVar 5) (tVar 1)))) (tVar 5) [5]))))))
set_option maxHeartbeats 4000000 in
theorem d_turn_behind (T : Txt K mg) {f : Addr} {cdv : Value} {A : Around} {outer : List PySem.Env} {s : Shared} {H : Hp} {E : XK} (hgd : A.guards = some []) (hr : Room 0 (A.deeper (PyProof.Rows.envOfC "turn_behind" (defScope s_turn_behind) s.heap.objs.size f cdv))) :
    PSs (cxOf CX0 P w K mg base ["turn", "later", "has_e", "has_p", "parts", "letter"] "turn_behind" (defScope s_turn_behind) f cdv A outer s H E).nox (defBody s_turn_behind) (t_turn_behind K) :=
    (pss_cons (ps_par (by rfl) sc_turn_behind.nd rfl rfl (by decide) rfl rfl (pa_cons (pe_cmpR op_inU pe_str (pv 0) rfl) (pa_cons (pe_cmpR op_inU pe_str (pv 0) rfl) pa_nil)) (by rfl))
      (pss_cons (ps_if (pt_cmpR op_inU pe_str (pv 1) rfl) (pss_one (ps_par (by rfl) sc_turn_behind.nd rfl rfl (by decide) rfl rfl (pa_cons (pv 3) (pa_cons (pv 2) pa_nil)) (by rfl))) pss_nil)
      (pss_cons (ps_set (i := 4) sc_turn_behind.nd rfl (by first | exact .inl rfl | exact .inr rfl) (pe_disp (pps_cons pe_str (pv 2) (pps_cons pe_str (pv 3) (pps_cons pe_str (pe_cmpR op_inU pe_str (pv 0) rfl) (pps_cons pe_str (pe_cmpR op_inU pe_str (pv 0) rfl) pps_nil)))) (by rfl) (by rfl) (fun z => by cases z) (by decide)))
      (pss_one (ps_ret (pe_join pe_str (pe_lc (own := [("letter", 5)]) rfl sc_turn_behind.nd (pi_str (pe_glob rfl T.c_LETTERS.choose_spec ⟨_, rfl⟩)) (blkOk_by (N := ["turn", "later", "has_e", "has_p", "parts", "letter"]) (sc := defScope s_turn_behind) (by decide +kernel)) (fun _ _ _ _ _ => (pg_name (i := 5) sc_turn_behind.nd rfl (by first | exact .inl rfl | exact .inr rfl))) (fun _ _ _ _ _ => (pts_one (pt_cmpR (op_neV hr.units) (pe_dget (hu_of hr) (pv 4) (pv 5) (fun _ _ => rfl)) (pe_cmpR op_inU (pv 5) (pv 1) rfl) (nomark _)))) (fun _ _ _ _ _ => (pv 5)))))))))
abbrev s_behind : Stmt := topS 7
theorem sc_behind : FnScope ["one", "other", "turn", "down", "across"] ["one", "other"] (defScope s_behind) := ⟨rfl, rfl, rfl, by decide +kernel, rfl, by decide +kernel, by decide +kernel⟩
def t_behind (K : PySem.W.Frag) : TS :=
    (tSeq (tAsg (tVar 0) (gTup K 3 (gCons (gName 2) (gCons (gName 3) (gCons (gName 4) gNil)))))
    (tSeq (tIfS (tTest (tOp (rInU K false) (tC (.str "w")) (tOp (rIx K) (tVar 1) (tC (.int 0))))) (tPar 3 4 (tCons (tVar 4) (tCons (tVar 3) tNil))) tNext)
    (tSeq (tIfS (tTest (tOp (rInU K false) (tC (.str "e")) (tOp (rIx K) (tVar 1) (tC (.int 0))))) (tAsg (tUn (rU fun i => .int (-i)) (tVar 4)) (gName 4)) tNext)
    (tSeq (tIfS (tTest (tOp (rInU K false) (tC (.str "p")) (tOp (rIx K) (tVar 1) (tC (.int 0))))) (tAsg (tUn (rU fun i => .int (-i)) (tVar 3)) (gName 3)) tNext)
    (tRet (tTup (tCons (tCall (spD K C_turn_behind) [] E0 (tCons (tVar 2) (tCons (tOp (rIx K) (tVar 1) (tC (.int 0))) tNil))) (tCons (tOp (rAddV K) (tVar 3) (tOp (rIx K) (tVar 1) (tC (.int 1)))) (tCons (tOp (rAddV K) (tVar 4) (tOp (rIx K) (tVar 1) (tC (.int 2)))) tNil)))))))))
set_option maxHeartbeats 4000000 in
theorem d_behind (T : Txt K mg) {f_turn_behind : Addr} {fd_turn_behind : FuncData} (D_turn_behind : Df P w K mg base 1 "turn_behind" ["turn", "later"] C_turn_behind f_turn_behind fd_turn_behind) {f : Addr} {cdv : Value} {A : Around} {outer : List PySem.Env} {s : Shared} {H : Hp} {E : XK} (hgd : A.guards = some []) (hr : Room 1 (A.deeper (PyProof.Rows.envOfC "behind" (defScope s_behind) s.heap.objs.size f cdv))) :
    PSs (cxOf CX0 P w K mg base ["one", "other", "turn", "down", "across"] "behind" (defScope s_behind) f cdv A outer s H E).nox (defBody s_behind) (t_behind K) :=
    (pss_cons (ps_asg (pv 0) (pg_tup rfl (pgs_cons (pg_name (i := 2) sc_behind.nd rfl (by first | exact .inl rfl | exact .inr rfl)) (pgs_cons (pg_name (i := 3) sc_behind.nd rfl (by first | exact .inl rfl | exact .inr rfl)) (pgs_cons (pg_name (i := 4) sc_behind.nd rfl (by first | exact .inl rfl | exact .inr rfl)) pgs_nil)))))
      (pss_cons (ps_if (pt_cmpR op_inU pe_str (pe_ix ix_seq (pv 1) pe_int (fun _ _ => rfl)) rfl) (pss_one (ps_par (by rfl) sc_behind.nd rfl rfl (by decide) rfl rfl (pa_cons (pv 4) (pa_cons (pv 3) pa_nil)) (by rfl))) pss_nil)
      (pss_cons (ps_if (pt_cmpR op_inU pe_str (pe_ix ix_seq (pv 1) pe_int (fun _ _ => rfl)) rfl) (pss_one (ps_set (i := 4) sc_behind.nd rfl (by first | exact .inl rfl | exact .inr rfl) (pe_un un_neg (pv 4)))) pss_nil)
      (pss_cons (ps_if (pt_cmpR op_inU pe_str (pe_ix ix_seq (pv 1) pe_int (fun _ _ => rfl)) rfl) (pss_one (ps_set (i := 3) sc_behind.nd rfl (by first | exact .inl rfl | exact .inr rfl) (pe_un un_neg (pv 3)))) pss_nil)
      (pss_one (ps_ret (pe_tup (pa_cons (pe_df D_turn_behind hgd (hr.mono (by decide)) rfl (pa_cons (pv 2) (pa_cons (pe_ix ix_seq (pv 1) pe_int (fun _ _ => rfl)) pa_nil))) (pa_cons (pe_op op_addV (pv 3) (pe_ix ix_seq (pv 1) pe_int (fun _ _ => rfl))) (pa_cons (pe_op op_addV (pv 4) (pe_ix ix_seq (pv 1) pe_int (fun _ _ => rfl))) pa_nil))))))))))
abbrev s_back_of : Stmt := topS 8
theorem sc_back_of : FnScope ["motion", "turn", "down", "across", "parts", "letter"] ["motion"] (defScope s_back_of) := ⟨rfl, rfl, rfl, by decide +kernel, rfl, by decide +kernel, by decide +kernel⟩
def t_back_of (K : PySem.W.Frag) : TS :=
    (tSeq (tAsg (tVar 0) (gTup K 3 (gCons (gName 1) (gCons (gName 2) (gCons (gName 3) gNil)))))
    (tSeq (tAsg (tIf (tTest (tOp (rInU K false) (tC (.str "p")) (tVar 1))) (tUn (rU fun i => .int (-i)) (tVar 2)) (tVar 2)) (gName 2))
    (tSeq (tAsg (tIf (tTest (tOp (rInU K false) (tC (.str "e")) (tVar 1))) (tUn (rU fun i => .int (-i)) (tVar 3)) (tVar 3)) (gName 3))
    (tSeq (tIfS (tTest (tOp (rInU K true) (tC (.str "w")) (tVar 1))) (tRet (tTup (tCons (tVar 1) (tCons (tUn (rU fun i => .int (-i)) (tVar 2)) (tCons (tUn (rU fun i => .int (-i)) (tVar 3)) tNil))))) tNext)
    (tSeq (tAsg (tDisp (((tC (.str "e")), (tOp (rInU K false) (tC (.str "p")) (tVar 1))) :: (((tC (.str "p")), (tOp (rInU K false) (tC (.str "e")) (tVar 1))) :: (((tC (.str "s")), (tOp (rInU K false) (tC (.str "s")) (tVar 1))) :: (((tC (.str "w")), (tC (.bl true))) :: []))))) (gName 4))
    (tRet (tTup (tCons (tM1 (rJoin K) (tC (.str "")) (tLc (iStr (tC (.str "epsw"))) (gName 5) (fun σ H Q => (tDGet (tVar 4) (tVar 5)) σ H fun x H' => ∃ k, TruV K x H' k ∧ Q k H') (tVar 5) [5])) (tCons (tUn (rU fun i => .int (-i)) (tVar 3)) (tCons (tUn (rU fun i => .int (-i)) (tVar 2)) tNil))))))))))
set_option maxHeartbeats 4000000 in
theorem d_back_of (T : Txt K mg) {f : Addr} {cdv : Value} {A : Around} {outer : List PySem.Env} {s : Shared} {H : Hp} {E : XK} (hgd : A.guards = some []) (hr : Room 0 (A.deeper (PyProof.Rows.envOfC "back_of" (defScope s_back_of) s.heap.objs.size f cdv))) :
    PSs (cxOf CX0 P w K mg base ["motion", "turn", "down", "across", "parts", "letter"] "back_of" (defScope s_back_of) f cdv A outer s H E).nox (defBody s_back_of) (t_back_of K) :=
    (pss_cons (ps_asg (pv 0) (pg_tup rfl (pgs_cons (pg_name (i := 1) sc_back_of.nd rfl (by first | exact .inl rfl | exact .inr rfl)) (pgs_cons (pg_name (i := 2) sc_back_of.nd rfl (by first | exact .inl rfl | exact .inr rfl)) (pgs_cons (pg_name (i := 3) sc_back_of.nd rfl (by first | exact .inl rfl | exact .inr rfl)) pgs_nil)))))
      (pss_cons (ps_set (i := 2) sc_back_of.nd rfl (by first | exact .inl rfl | exact .inr rfl) (pe_ifExp (pt_cmpR op_inU pe_str (pv 1) rfl) (pe_un un_neg (pv 2)) (pv 2)))
      (pss_cons (ps_set (i := 3) sc_back_of.nd rfl (by first | exact .inl rfl | exact .inr rfl) (pe_ifExp (pt_cmpR op_inU pe_str (pv 1) rfl) (pe_un un_neg (pv 3)) (pv 3)))
      (pss_cons (ps_if (pt_cmpR op_notInU pe_str (pv 1) rfl) (pss_one (ps_ret (pe_tup (pa_cons (pv 1) (pa_cons (pe_un un_neg (pv 2)) (pa_cons (pe_un un_neg (pv 3)) pa_nil)))))) pss_nil)
      (pss_cons (ps_set (i := 4) sc_back_of.nd rfl (by first | exact .inl rfl | exact .inr rfl) (pe_disp (pps_cons pe_str (pe_cmpR op_inU pe_str (pv 1) rfl) (pps_cons pe_str (pe_cmpR op_inU pe_str (pv 1) rfl) (pps_cons pe_str (pe_cmpR op_inU pe_str (pv 1) rfl) (pps_cons pe_str pe_bl pps_nil)))) (by rfl) (by rfl) (fun z => by cases z) (by decide)))
      (pss_one (ps_ret (pe_tup (pa_cons (pe_join pe_str (pe_lc (own := [("letter", 5)]) rfl sc_back_of.nd (pi_str (pe_glob rfl T.c_LETTERS.choose_spec ⟨_, rfl⟩)) (blkOk_by (N := ["motion", "turn", "down", "across", "parts", "letter"]) (sc := defScope s_back_of) (by decide +kernel)) (fun _ _ _ _ _ => (pg_name (i := 5) sc_back_of.nd rfl (by first | exact .inl rfl | exact .inr rfl))) (fun _ _ _ _ _ => (pts_one (pt_truth (pe_dget (hu_of hr) (pv 4) (pv 5) (fun _ _ => rfl)) (by intro _; rfl)))) (fun _ _ _ _ _ => (pv 5)))) (pa_cons (pe_un un_neg (pv 3)) (pa_cons (pe_un un_neg (pv 2)) pa_nil)))))))))))
abbrev s__law_deck : Stmt := topS 10
theorem sc__law_deck : FnScope ["_law_script", "_law_cells", "_law_blend", "_law_cell"] ["_law_script"] (defScope s__law_deck) := ⟨rfl, rfl, rfl, by decide +kernel, rfl, by decide +kernel, by decide +kernel⟩
def t__law_deck (K : PySem.W.Frag) : TS :=
    (tSeq (tPar 1 2 (tCons (tCB (rListA K) (tCons (tSl (rSlU K) (tVar 0) tNoPart (tPart (tC (.int 63)))) tNil)) (tCons (tOp (rAddV K) (tC (.int 1086959)) (tOp (rI (fun _ j => 0 < j) fun i j => .int (i % j)) (tCB (rSum K) (tCons (tSl (rSlU K) (tVar 0) tNoPart (tPart (tC (.int 1)))) tNil)) (tC (.int 1000003)))) tNil)))
    (tSeq (tFor (iList K (tVar 1)) (gName 3) (tAsg (tOp (rI (fun _ j => 0 < j) fun i j => .int (i % j)) (tCB (fun xs H Q => (∃ i, xs = [.int i] ∧ Q (.int i) H) ∨ ∃ k, xs = [.bl k] ∧ Q (.int (if k then 1 else 0)) H) (tCons (tOp (rAddV K) (tOp (rAddV K) (tOp rMulU (tVar 2) (tC (.int 48271))) (tOp (rI (fun _ j => 0 < j) fun i j => .int (i % j)) (tCB (fun xs H Q => (∃ i, xs = [.int i] ∧ Q (.int i) H) ∨ ∃ k, xs = [.bl k] ∧ Q (.int (if k then 1 else 0)) H) (tCons (tVar 3) tNil)) (tC (.int 2147483629)))) (tC (.int 559))) tNil)) (tC (.int 2147483587))) (gName 2)))
    (tRet (tDisp (((tC (.str "cells")), (tRevA K (tVar 1))) :: (((tC (.str "blend")), (tVar 2)) :: (((tC (.str "draws")), (tC (.int 0))) :: [])))))))
set_option maxHeartbeats 4000000 in
theorem d__law_deck (T : Txt K mg) {f : Addr} {cdv : Value} {A : Around} {outer : List PySem.Env} {s : Shared} {H : Hp} {E : XK} (hgd : A.guards = some []) (hr : Room 0 (A.deeper (PyProof.Rows.envOfC "_law_deck" (defScope s__law_deck) s.heap.objs.size f cdv))) :
    PSs (cxOf CX0 P w K mg base ["_law_script", "_law_cells", "_law_blend", "_law_cell"] "_law_deck" (defScope s__law_deck) f cdv A outer s H E).nox (defBody s__law_deck) (t__law_deck K) :=
    (pss_cons (ps_par (by rfl) sc__law_deck.nd rfl rfl (by decide) rfl rfl (pa_cons (pe_callTy (call_listA rfl) (by rfl) T.n_list (by decide +kernel) (pa_cons (pe_slice sl_U (pv 0) po_none (po_some pe_int)) pa_nil)) (pa_cons (pe_op op_addV pe_int (pe_op op_mod (pe_callB (cr_sum rfl) (by rfl) T.n_sum (by decide +kernel) (pa_cons (pe_slice sl_U (pv 0) po_none (po_some pe_int)) pa_nil)) pe_int)) pa_nil)) (by rfl))
      (pss_cons (ps_for PassesOwn.never rfl (pi_list (pv 1)) (pg_name (i := 3) sc__law_deck.nd rfl (by first | exact .inl rfl | exact .inr rfl)) (pss_one (ps_set (i := 2) sc__law_deck.nd rfl (by first | exact .inl rfl | exact .inr rfl) (pe_op op_mod (pe_callTy call_int1 (by rfl) T.n_int (by decide +kernel) (pa_cons (pe_op op_addV (pe_op op_addV (pe_op op_mulU (pv 2) pe_int) (pe_op op_mod (pe_callTy call_int1 (by rfl) T.n_int (by decide +kernel) (pa_cons (pv 3) pa_nil)) pe_int)) pe_int) pa_nil)) pe_int))))
      (pss_one (ps_ret (pe_disp (pps_cons pe_str (pe_revA (pv 1)) (pps_cons pe_str (pv 2) (pps_cons pe_str pe_int pps_nil))) (by rfl) (by rfl) (fun z => by cases z) (by decide))))))
abbrev s__law_draw : Stmt := topS 11
theorem sc__law_draw : FnScope ["_law_deck_here", "_law_below", "_law_turn", "_law_made", "_law_cell"] ["_law_deck_here", "_law_below"] (defScope s__law_draw) := ⟨rfl, rfl, rfl, by decide +kernel, rfl, by decide +kernel, by decide +kernel⟩
def t__law_draw (K : PySem.W.Frag) : TS :=
    (tSeq (sDPut (tVar 0) (tC (.str "draws")) (tOp (rAddV K) (tDGet (tVar 0) (tC (.str "draws"))) (tC (.int 1))))
    (tSeq (tPar 2 3 (tCons (tDGet (tVar 0) (tC (.str "draws"))) (tCons (tDGet (tVar 0) (tC (.str "blend"))) tNil)))
    (tSeq (tIfS (tTest (tOp (rEqV K true) (tDGet (tVar 0) (tC (.str "cells"))) (tLst tNil))) (tSeq (tAsg (tBM0 K "list" rPop (tDGet (tVar 0) (tC (.str "cells")))) (gName 4))
    (tSeq (tIfS (tTest (tOp (rCmpU (fun i j => decide (j ≤ i)) fun a b => !decide (a < b)) (tVar 4) (tOp (rI CPow fun i j => .int (i ^ j.toNat)) (tC (.int 10)) (tC (.int 18))))) (tSeq (tDrop (tBM K "list" rAppend (tDGet (tVar 0) (tC (.str "cells"))) (tCons (tOp (rI CDiv fun i j => .int (i / j)) (tVar 4) (tVar 1)) tNil)))
    (tRet (tOp (rI (fun _ j => 0 < j) fun i j => .int (i % j)) (tCB (fun xs H Q => (∃ i, xs = [.int i] ∧ Q (.int i) H) ∨ ∃ k, xs = [.bl k] ∧ Q (.int (if k then 1 else 0)) H) (tCons (tVar 4) tNil)) (tVar 1)))) tNext)
    (tAsg (tOp (rAddV K) (tVar 3) (tOp (rI (fun _ j => 0 < j) fun i j => .int (i % j)) (tCB (fun xs H Q => (∃ i, xs = [.int i] ∧ Q (.int i) H) ∨ ∃ k, xs = [.bl k] ∧ Q (.int (if k then 1 else 0)) H) (tCons (tVar 4) tNil)) (tC (.int 2147483629)))) (gName 3)))) tNext)
    (tSeq (tAsg (tOp (rI (fun _ j => 0 < j) fun i j => .int (i % j)) (tCB (fun xs H Q => (∃ i, xs = [.int i] ∧ Q (.int i) H) ∨ ∃ k, xs = [.bl k] ∧ Q (.int (if k then 1 else 0)) H) (tCons (tOp (rAddV K) (tOp (rAddV K) (tVar 3) (tOp rMulU (tOp rMulU (tC (.int 60497)) (tVar 2)) (tVar 2))) (tC (.int 559))) tNil)) (tC (.int 2147483629))) (gName 3))
    (tSeq (tAsg (tOp (rI (fun _ j => 0 < j) fun i j => .int (i % j)) (tCB (fun xs H Q => (∃ i, xs = [.int i] ∧ Q (.int i) H) ∨ ∃ k, xs = [.bl k] ∧ Q (.int (if k then 1 else 0)) H) (tCons (tOp rMulU (tVar 3) (tC (.int 40692))) tNil)) (tC (.int 2147483647))) (gName 3))
    (tSeq (tAsg (tOp (rI (fun _ j => 0 < j) fun i j => .int (i % j)) (tCB (fun xs H Q => (∃ i, xs = [.int i] ∧ Q (.int i) H) ∨ ∃ k, xs = [.bl k] ∧ Q (.int (if k then 1 else 0)) H) (tCons (tOp (rAddV K) (tOp (rAddV K) (tOp rMulU (tVar 3) (tVar 3)) (tOp rMulU (tC (.int 69621)) (tVar 2))) (tC (.int 567))) tNil)) (tC (.int 2147483587))) (gName 3))
    (tRet (tOp (rI (fun _ j => 0 < j) fun i j => .int (i % j)) (tOp (rI CDiv fun i j => .int (i / j)) (tOp (rI (fun _ j => 0 < j) fun i j => .int (i % j)) (tCB (fun xs H Q => (∃ i, xs = [.int i] ∧ Q (.int i) H) ∨ ∃ k, xs = [.bl k] ∧ Q (.int (if k then 1 else 0)) H) (tCons (tOp rMulU (tVar 3) (tC (.int 39373))) tNil)) (tC (.int 2147483563))) (tC (.int 64))) (tVar 1)))))))))
set_option maxHeartbeats 4000000 in
theorem d__law_draw (T : Txt K mg) {f : Addr} {cdv : Value} {A : Around} {outer : List PySem.Env} {s : Shared} {H : Hp} {E : XK} (hgd : A.guards = some []) (hr : Room 0 (A.deeper (PyProof.Rows.envOfC "_law_draw" (defScope s__law_draw) s.heap.objs.size f cdv))) :
    PSs (cxOf CX0 P w K mg base ["_law_deck_here", "_law_below", "_law_turn", "_law_made", "_law_cell"] "_law_draw" (defScope s__law_draw) f cdv A outer s H E).nox (defBody s__law_draw) (t__law_draw K) :=
    (pss_cons (ps_dput (hu_of hr) (pv 0) pe_str (pe_op op_addV (pe_dget (hu_of hr) (pv 0) pe_str (fun _ _ => rfl)) pe_int) rfl)
      (pss_cons (ps_par (by rfl) sc__law_draw.nd rfl rfl (by decide) rfl rfl (pa_cons (pe_dget (hu_of hr) (pv 0) pe_str (fun _ _ => rfl)) (pa_cons (pe_dget (hu_of hr) (pv 0) pe_str (fun _ _ => rfl)) pa_nil)) (by rfl))
      (pss_cons (ps_if (pt_cmpR (op_neV hr.units) (pe_dget (hu_of hr) (pv 0) pe_str (fun _ _ => rfl)) (pe_lst pa_nil) (nomark _)) (pss_cons (ps_set (i := 4) sc__law_draw.nd rfl (by first | exact .inl rfl | exact .inr rfl) (pe_bm0 PySem.F.plainAttrs_list PySem.F.slot_list_pop PySem.F.type_list_pop mt_pop (pe_dget (hu_of hr) (pv 0) pe_str (fun _ _ => rfl))))
      (pss_cons (ps_if (pt_cmpR op_geU (pv 4) (pe_op op_pow pe_int pe_int) (nomark _)) (pss_cons (ps_expr (pe_bm PySem.F.plainAttrs_list PySem.F.slot_list_append PySem.F.type_list_append mt_append (pe_dget (hu_of hr) (pv 0) pe_str (fun _ _ => rfl)) (pa_cons (pe_op op_fdiv (pv 4) (pv 1)) pa_nil)))
      (pss_one (ps_ret (pe_op op_mod (pe_callTy call_int1 (by rfl) T.n_int (by decide +kernel) (pa_cons (pv 4) pa_nil)) (pv 1))))) pss_nil)
      (pss_one (ps_set (i := 3) sc__law_draw.nd rfl (by first | exact .inl rfl | exact .inr rfl) (pe_op op_addV (pv 3) (pe_op op_mod (pe_callTy call_int1 (by rfl) T.n_int (by decide +kernel) (pa_cons (pv 4) pa_nil)) pe_int)))))) pss_nil)
      (pss_cons (ps_set (i := 3) sc__law_draw.nd rfl (by first | exact .inl rfl | exact .inr rfl) (pe_op op_mod (pe_callTy call_int1 (by rfl) T.n_int (by decide +kernel) (pa_cons (pe_op op_addV (pe_op op_addV (pv 3) (pe_op op_mulU (pe_op op_mulU pe_int (pv 2)) (pv 2))) pe_int) pa_nil)) pe_int))
      (pss_cons (ps_set (i := 3) sc__law_draw.nd rfl (by first | exact .inl rfl | exact .inr rfl) (pe_op op_mod (pe_callTy call_int1 (by rfl) T.n_int (by decide +kernel) (pa_cons (pe_op op_mulU (pv 3) pe_int) pa_nil)) pe_int))
      (pss_cons (ps_set (i := 3) sc__law_draw.nd rfl (by first | exact .inl rfl | exact .inr rfl) (pe_op op_mod (pe_callTy call_int1 (by rfl) T.n_int (by decide +kernel) (pa_cons (pe_op op_addV (pe_op op_addV (pe_op op_mulU (pv 3) (pv 3)) (pe_op op_mulU pe_int (pv 2))) pe_int) pa_nil)) pe_int))
      (pss_one (ps_ret (pe_op op_mod (pe_op op_fdiv (pe_op op_mod (pe_callTy call_int1 (by rfl) T.n_int (by decide +kernel) (pa_cons (pe_op op_mulU (pv 3) pe_int) pa_nil)) pe_int) pe_int) (pv 1))))))))))
abbrev s__law_pick : Stmt := topS 12
theorem sc__law_pick : FnScope ["_law_deck_here", "_law_some"] ["_law_deck_here", "_law_some"] (defScope s__law_pick) := ⟨rfl, rfl, rfl, by decide +kernel, rfl, by decide +kernel, by decide +kernel⟩
def t__law_pick (K : PySem.W.Frag) : TS :=
    (tRet (tOp (rIx K) (tVar 1) (tCall (spD K C__law_draw) [] E0 (tCons (tVar 0) (tCons (tCB (fun xs H Q => ∃ x n, xs = [x] ∧ LenV K x H n ∧ Q (.int n) H) (tCons (tVar 1) tNil)) tNil)))))
set_option maxHeartbeats 4000000 in
theorem d__law_pick (T : Txt K mg) {f__law_draw : Addr} {fd__law_draw : FuncData} (D__law_draw : Df P w K mg base 1 "_law_draw" ["_law_deck_here", "_law_below"] C__law_draw f__law_draw fd__law_draw) {f : Addr} {cdv : Value} {A : Around} {outer : List PySem.Env} {s : Shared} {H : Hp} {E : XK} (hgd : A.guards = some []) (hr : Room 1 (A.deeper (PyProof.Rows.envOfC "_law_pick" (defScope s__law_pick) s.heap.objs.size f cdv))) :
    PSs (cxOf CX0 P w K mg base ["_law_deck_here", "_law_some"] "_law_pick" (defScope s__law_pick) f cdv A outer s H E).nox (defBody s__law_pick) (t__law_pick K) :=
    (pss_one (ps_ret (pe_ix ix_seq (pv 1) (pe_df D__law_draw hgd (hr.mono (by decide)) rfl (pa_cons (pv 0) (pa_cons (pe_callB call_len (by rfl) T.n_len (by decide +kernel) (pa_cons (pv 1) pa_nil)) pa_nil))) (fun _ _ => rfl))))
abbrev s__law_led : Stmt := topS 13
theorem sc__law_led : FnScope ["_law_act", "_law_spot", "_law_kind", "_law_k"] ["_law_act", "_law_spot"] (defScope s__law_led) := ⟨rfl, rfl, rfl, by decide +kernel, rfl, by decide +kernel, by decide +kernel⟩
def t__law_led (K : PySem.W.Frag) : TS :=
    (tSeq (tAsg (tVar 1) (gTup K 2 (gCons (gName 2) (gCons (gName 3) gNil))))
    (tSeq (tIfS (tTest (tOp (rInU K false) (tC (.str "w")) (tOp (rIx K) (tVar 0) (tC (.int 0))))) (tAsg (tIf (tTest (tOp (rEqW K false) (tVar 2) (tC (.str "end")))) (tC (.str "pick")) (tC (.str "end"))) (gName 2)) tNext)
    (tSeq (tIfS (tTest (tOp (rEqW K false) (tVar 2) (tC (.str "end")))) (tRet (tTup (tCons (tVar 2) (tCons (tOp (rAddV K) (tIf (tTest (tOp (rInU K false) (tC (.str "e")) (tOp (rIx K) (tVar 0) (tC (.int 0))))) (tOp rSubV (tC (.int 0)) (tVar 3)) (tVar 3)) (tOp (rIx K) (tVar 0) (tC (.int 2)))) tNil)))) tNext)
    (tRet (tTup (tCons (tVar 2) (tCons (tOp (rAddV K) (tIf (tTest (tOp (rInU K false) (tC (.str "p")) (tOp (rIx K) (tVar 0) (tC (.int 0))))) (tOp rSubV (tC (.int 0)) (tVar 3)) (tVar 3)) (tOp (rIx K) (tVar 0) (tC (.int 1)))) tNil)))))))
set_option maxHeartbeats 4000000 in
theorem d__law_led (T : Txt K mg) {f : Addr} {cdv : Value} {A : Around} {outer : List PySem.Env} {s : Shared} {H : Hp} {E : XK} (hgd : A.guards = some []) (hr : Room 0 (A.deeper (PyProof.Rows.envOfC "_law_led" (defScope s__law_led) s.heap.objs.size f cdv))) :
    PSs (cxOf CX0 P w K mg base ["_law_act", "_law_spot", "_law_kind", "_law_k"] "_law_led" (defScope s__law_led) f cdv A outer s H E).nox (defBody s__law_led) (t__law_led K) :=
    (pss_cons (ps_asg (pv 1) (pg_tup rfl (pgs_cons (pg_name (i := 2) sc__law_led.nd rfl (by first | exact .inl rfl | exact .inr rfl)) (pgs_cons (pg_name (i := 3) sc__law_led.nd rfl (by first | exact .inl rfl | exact .inr rfl)) pgs_nil))))
      (pss_cons (ps_if (pt_cmpR op_inU pe_str (pe_ix ix_seq (pv 0) pe_int (fun _ _ => rfl)) rfl) (pss_one (ps_set (i := 2) sc__law_led.nd rfl (by first | exact .inl rfl | exact .inr rfl) (pe_ifExp (pt_cmpR (op_eqW hr.units) (pv 2) pe_str (nomark _)) pe_str pe_str))) pss_nil)
      (pss_cons (ps_if (pt_cmpR (op_eqW hr.units) (pv 2) pe_str (nomark _)) (pss_one (ps_ret (pe_tup (pa_cons (pv 2) (pa_cons (pe_op op_addV (pe_ifExp (pt_cmpR op_inU pe_str (pe_ix ix_seq (pv 0) pe_int (fun _ _ => rfl)) rfl) (pe_op op_subV pe_int (pv 3)) (pv 3)) (pe_ix ix_seq (pv 0) pe_int (fun _ _ => rfl))) pa_nil))))) pss_nil)
      (pss_one (ps_ret (pe_tup (pa_cons (pv 2) (pa_cons (pe_op op_addV (pe_ifExp (pt_cmpR op_inU pe_str (pe_ix ix_seq (pv 0) pe_int (fun _ _ => rfl)) rfl) (pe_op op_subV pe_int (pv 3)) (pv 3)) (pe_ix ix_seq (pv 0) pe_int (fun _ _ => rfl))) pa_nil))))))))
abbrev s__law_behind : Stmt := topS 14
theorem sc__law_behind : FnScope ["_law_near", "_law_far", "_law_bits", "_law_low", "_law_wide", "_law_e", "_law_p", "_law_s", "_law_w", "_law_own", "_law_turn", "_law_act", "_law_letter", "_law_k"] ["_law_near", "_law_far"] (defScope s__law_behind) := ⟨rfl, rfl, rfl, by decide +kernel, rfl, by decide +kernel, by decide +kernel⟩
def t__law_behind (K : PySem.W.Frag) : TS :=
    (tSeq (tAsg (tLc (iTup K (tTup (tCons (tVar 0) (tCons (tVar 1) tNil)))) (gName 11) tYes (tLc (iStr (tC (.str "epsw"))) (gName 12) tYes (tOp (rInU K false) (tVar 12) (tOp (rIx K) (tVar 11) (tC (.int 0)))) [12]) [11]) (gName 2))
    (tSeq (tAsg (tTup (tCons (tOp (rIx K) (tVar 0) (tC (.int 1))) (tCons (tOp (rIx K) (tVar 0) (tC (.int 2))) (tCons (tOp (rIx K) (tVar 2) (tC (.int 0))) tNil)))) (gTup K 3 (gCons (gName 3) (gCons (gName 4) (gCons (gUnl K 4 (gCons (gName 5) (gCons (gName 6) (gCons (gName 7) (gCons (gName 8) gNil))))) gNil)))))
    (tSeq (tIfS (fun σ H Q => (tOp (rIx K) (tOp (rIx K) (tVar 2) (tC (.int 1))) (tC (.int 3))) σ H fun x H' => ∃ k, TruV K x H' k ∧ Q k H') (tAsg (tTup (tCons (tVar 6) (tCons (tVar 5) (tCons (tVar 4) (tCons (tVar 3) tNil))))) (gTup K 4 (gCons (gName 5) (gCons (gName 6) (gCons (gName 3) (gCons (gName 4) gNil)))))) tNext)
    (tSeq (tPar 3 4 (tCons (tOp (rAddV K) (tIf (fun σ H Q => (tOp (rIx K) (tOp (rIx K) (tVar 2) (tC (.int 1))) (tC (.int 1))) σ H fun x H' => ∃ k, TruV K x H' k ∧ Q k H') (tOp rSubV (tC (.int 0)) (tVar 3)) (tVar 3)) (tOp (rIx K) (tVar 1) (tC (.int 1)))) (tCons (tOp (rAddV K) (tIf (fun σ H Q => (tOp (rIx K) (tOp (rIx K) (tVar 2) (tC (.int 1))) (tC (.int 0))) σ H fun x H' => ∃ k, TruV K x H' k ∧ Q k H') (tOp rSubV (tC (.int 0)) (tVar 4)) (tVar 4)) (tOp (rIx K) (tVar 1) (tC (.int 2)))) tNil)))
    (tSeq (tAsg (tLst (tCons (tVar 5) (tCons (tVar 6) (tCons (tVar 7) (tCons (tVar 8) tNil))))) (gName 9))
    (tSeq (tAsg (tM1 (rJoin K) (tC (.str "")) (tLc (iRng1 (tCons (tC (.int 4)) tNil)) (gName 13) (tTest (tOp (rEqV K true) (tOp (rIx K) (tVar 9) (tVar 13)) (tOp (rIx K) (tOp (rIx K) (tVar 2) (tC (.int 1))) (tVar 13)))) (tOp (rIx K) (tC (.str "epsw")) (tVar 13)) [13])) (gName 10))
    (tRet (tTup (tCons (tVar 10) (tCons (tVar 3) (tCons (tVar 4) tNil)))))))))))
set_option maxHeartbeats 4000000 in
theorem d__law_behind (T : Txt K mg) {f : Addr} {cdv : Value} {A : Around} {outer : List PySem.Env} {s : Shared} {H : Hp} {E : XK} (hgd : A.guards = some []) (hr : Room 0 (A.deeper (PyProof.Rows.envOfC "_law_behind" (defScope s__law_behind) s.heap.objs.size f cdv))) :
    PSs (cxOf CX0 P w K mg base ["_law_near", "_law_far", "_law_bits", "_law_low", "_law_wide", "_law_e", "_law_p", "_law_s", "_law_w", "_law_own", "_law_turn", "_law_act", "_law_letter", "_law_k"] "_law_behind" (defScope s__law_behind) f cdv A outer s H E).nox (defBody s__law_behind) (t__law_behind K) :=
    (pss_cons (ps_set (i := 2) sc__law_behind.nd rfl (by first | exact .inl rfl | exact .inr rfl) (pe_lc (own := [("_law_act", 11)]) rfl sc__law_behind.nd (pi_tup (pe_tup (pa_cons (pv 0) (pa_cons (pv 1) pa_nil)))) (blkOk_by (N := ["_law_near", "_law_far", "_law_bits", "_law_low", "_law_wide", "_law_e", "_law_p", "_law_s", "_law_w", "_law_own", "_law_turn", "_law_act", "_law_letter", "_law_k"]) (sc := defScope s__law_behind) (by decide +kernel)) (fun _ _ _ _ _ => (pg_name (i := 11) sc__law_behind.nd rfl (by first | exact .inl rfl | exact .inr rfl))) (fun _ _ _ _ _ => pts_nil) (fun _ _ _ _ _ => (pe_lc (own := [("_law_letter", 12)]) rfl sc__law_behind.nd (pi_str pe_str) (blkOk_by (by rfl)) (fun _ _ _ _ _ => (pg_name (i := 12) sc__law_behind.nd rfl (by first | exact .inl rfl | exact .inr rfl))) (fun _ _ _ _ _ => pts_nil) (fun _ _ _ _ _ => (pe_cmpR op_inU (pv 12) (pe_ix ix_seq (pv 11) pe_int (fun _ _ => rfl)) rfl))))))
      (pss_cons (ps_asg (pe_tup (pa_cons (pe_ix ix_seq (pv 0) pe_int (fun _ _ => rfl)) (pa_cons (pe_ix ix_seq (pv 0) pe_int (fun _ _ => rfl)) (pa_cons (pe_ix ix_seq (pv 2) pe_int (fun _ _ => rfl)) pa_nil)))) (pg_tup rfl (pgs_cons (pg_name (i := 3) sc__law_behind.nd rfl (by first | exact .inl rfl | exact .inr rfl)) (pgs_cons (pg_name (i := 4) sc__law_behind.nd rfl (by first | exact .inl rfl | exact .inr rfl)) (pgs_cons (pg_unl rfl (pgs_cons (pg_name (i := 5) sc__law_behind.nd rfl (by first | exact .inl rfl | exact .inr rfl)) (pgs_cons (pg_name (i := 6) sc__law_behind.nd rfl (by first | exact .inl rfl | exact .inr rfl)) (pgs_cons (pg_name (i := 7) sc__law_behind.nd rfl (by first | exact .inl rfl | exact .inr rfl)) (pgs_cons (pg_name (i := 8) sc__law_behind.nd rfl (by first | exact .inl rfl | exact .inr rfl)) pgs_nil))))) pgs_nil)))))
      (pss_cons (ps_if (pt_truth (pe_ix ix_seq (pe_ix ix_seq (pv 2) pe_int (fun _ _ => rfl)) pe_int (fun _ _ => rfl)) (by intro _; rfl)) (pss_one (ps_asg (pe_tup (pa_cons (pv 6) (pa_cons (pv 5) (pa_cons (pv 4) (pa_cons (pv 3) pa_nil))))) (pg_tup rfl (pgs_cons (pg_name (i := 5) sc__law_behind.nd rfl (by first | exact .inl rfl | exact .inr rfl)) (pgs_cons (pg_name (i := 6) sc__law_behind.nd rfl (by first | exact .inl rfl | exact .inr rfl)) (pgs_cons (pg_name (i := 3) sc__law_behind.nd rfl (by first | exact .inl rfl | exact .inr rfl)) (pgs_cons (pg_name (i := 4) sc__law_behind.nd rfl (by first | exact .inl rfl | exact .inr rfl)) pgs_nil))))))) pss_nil)
      (pss_cons (ps_par (by rfl) sc__law_behind.nd rfl rfl (by decide) rfl rfl (pa_cons (pe_op op_addV (pe_ifExp (pt_truth (pe_ix ix_seq (pe_ix ix_seq (pv 2) pe_int (fun _ _ => rfl)) pe_int (fun _ _ => rfl)) (by intro _; rfl)) (pe_op op_subV pe_int (pv 3)) (pv 3)) (pe_ix ix_seq (pv 1) pe_int (fun _ _ => rfl))) (pa_cons (pe_op op_addV (pe_ifExp (pt_truth (pe_ix ix_seq (pe_ix ix_seq (pv 2) pe_int (fun _ _ => rfl)) pe_int (fun _ _ => rfl)) (by intro _; rfl)) (pe_op op_subV pe_int (pv 4)) (pv 4)) (pe_ix ix_seq (pv 1) pe_int (fun _ _ => rfl))) pa_nil)) (by rfl))
      (pss_cons (ps_set (i := 9) sc__law_behind.nd rfl (by first | exact .inl rfl | exact .inr rfl) (pe_lst (pa_cons (pv 5) (pa_cons (pv 6) (pa_cons (pv 7) (pa_cons (pv 8) pa_nil))))))
      (pss_cons (ps_set (i := 10) sc__law_behind.nd rfl (by first | exact .inl rfl | exact .inr rfl) (pe_join pe_str (pe_lc (own := [("_law_k", 13)]) rfl sc__law_behind.nd (pi_range1 rfl T.n_range (pa_cons pe_int pa_nil)) (blkOk_by (N := ["_law_near", "_law_far", "_law_bits", "_law_low", "_law_wide", "_law_e", "_law_p", "_law_s", "_law_w", "_law_own", "_law_turn", "_law_act", "_law_letter", "_law_k"]) (sc := defScope s__law_behind) (by decide +kernel)) (fun _ _ _ _ _ => (pg_name (i := 13) sc__law_behind.nd rfl (by first | exact .inl rfl | exact .inr rfl))) (fun _ _ _ _ _ => (pts_one (pt_cmpR (op_neV hr.units) (pe_ix ix_seq (pv 9) (pv 13) (fun _ _ => rfl)) (pe_ix ix_seq (pe_ix ix_seq (pv 2) pe_int (fun _ _ => rfl)) (pv 13) (fun _ _ => rfl)) (nomark _)))) (fun _ _ _ _ _ => (pe_ix ix_seq pe_str (pv 13) (fun _ _ => rfl))))))
      (pss_one (ps_ret (pe_tup (pa_cons (pv 10) (pa_cons (pv 3) (pa_cons (pv 4) pa_nil))))))))))))
abbrev s__law_turns : Stmt := topS 15
theorem sc__law_turns : FnScope ["_law_found", "_law_sign", "_law_turn"] [] (defScope s__law_turns) := ⟨rfl, rfl, rfl, by decide +kernel, rfl, by decide +kernel, by decide +kernel⟩
def t__law_turns (K : PySem.W.Frag) : TS :=
    (tSeq (tAsg (tLst (tCons (tC (.str "")) tNil)) (gName 0))
    (tSeq (tFor (iStr (tC (.str "epsw"))) (gName 1) (tAsg (tOp (rAddV K) (tVar 0) (tLc (iList K (tVar 0)) (gName 2) tYes (tOp (rAddV K) (tVar 2) (tVar 1)) [2])) (gName 0)))
    (tRet (tCB (rSortedS K) (tCons (tVar 0) tNil)))))
set_option maxHeartbeats 4000000 in
theorem d__law_turns (T : Txt K mg) {f : Addr} {cdv : Value} {A : Around} {outer : List PySem.Env} {s : Shared} {H : Hp} {E : XK} (hgd : A.guards = some []) (hr : Room 0 (A.deeper (PyProof.Rows.envOfC "_law_turns" (defScope s__law_turns) s.heap.objs.size f cdv))) :
    PSs (cxOf CX0 P w K mg base ["_law_found", "_law_sign", "_law_turn"] "_law_turns" (defScope s__law_turns) f cdv A outer s H E).nox (defBody s__law_turns) (t__law_turns K) :=
    (pss_cons (ps_set (i := 0) sc__law_turns.nd rfl (by first | exact .inl rfl | exact .inr rfl) (pe_lst (pa_cons pe_str pa_nil)))
      (pss_cons (ps_for PassesOwn.never rfl (pi_str pe_str) (pg_name (i := 1) sc__law_turns.nd rfl (by first | exact .inl rfl | exact .inr rfl)) (pss_one (ps_set (i := 0) sc__law_turns.nd rfl (by first | exact .inl rfl | exact .inr rfl) (pe_op op_addV (pv 0) (pe_lc (own := [("_law_turn", 2)]) rfl sc__law_turns.nd (pi_list (pv 0)) (blkOk_by (N := ["_law_found", "_law_sign", "_law_turn"]) (sc := defScope s__law_turns) (by decide +kernel)) (fun _ _ _ _ _ => (pg_name (i := 2) sc__law_turns.nd rfl (by first | exact .inl rfl | exact .inr rfl))) (fun _ _ _ _ _ => pts_nil) (fun _ _ _ _ _ => (pe_op op_addV (pv 2) (pv 1))))))))
      (pss_one (ps_ret (pe_callB cr_sortedS (by rfl) T.n_sorted (by decide +kernel) (pa_cons (pv 0) pa_nil))))))
abbrev s__law_motion : Stmt := topS 16
theorem sc__law_motion : FnScope ["_law_deck_here", "_law_turn", "_law_wide"] ["_law_deck_here"] (defScope s__law_motion) := ⟨rfl, rfl, rfl, by decide +kernel, rfl, by decide +kernel, by decide +kernel⟩
def t__law_motion (K : PySem.W.Frag) : TS :=
    (tSeq (tPar 1 2 (tCons (tCall (spD K C__law_pick) [] E0 (tCons (tVar 0) (tCons (tCall (spD K C__law_turns) [] E0 tNil) tNil))) (tCons (tIf (tTest (tOp (rCmpU (fun i j => decide (j < i)) fun a b => decide (b < a)) (tCall (spD K C__law_draw) [] E0 (tCons (tVar 0) (tCons (tC (.int 4)) tNil))) (tC (.int 0)))) (tC (.int 9)) (tC (.int 41))) tNil)))
    (tRet (tTup (tCons (tVar 1) (tCons (tOp rSubV (tCall (spD K C__law_draw) [] E0 (tCons (tVar 0) (tCons (tVar 2) tNil))) (tOp (rI CDiv fun i j => .int (i / j)) (tVar 2) (tC (.int 2)))) (tCons (tOp rSubV (tCall (spD K C__law_draw) [] E0 (tCons (tVar 0) (tCons (tVar 2) tNil))) (tOp (rI CDiv fun i j => .int (i / j)) (tVar 2) (tC (.int 2)))) tNil))))))
set_option maxHeartbeats 4000000 in
theorem d__law_motion (T : Txt K mg) {f__law_draw : Addr} {fd__law_draw : FuncData} (D__law_draw : Df P w K mg base 1 "_law_draw" ["_law_deck_here", "_law_below"] C__law_draw f__law_draw fd__law_draw) {f__law_pick : Addr} {fd__law_pick : FuncData} (D__law_pick : Df P w K mg base 2 "_law_pick" ["_law_deck_here", "_law_some"] C__law_pick f__law_pick fd__law_pick) {f__law_turns : Addr} {fd__law_turns : FuncData} (D__law_turns : Df P w K mg base 1 "_law_turns" [] C__law_turns f__law_turns fd__law_turns) {f : Addr} {cdv : Value} {A : Around} {outer : List PySem.Env} {s : Shared} {H : Hp} {E : XK} (hgd : A.guards = some []) (hr : Room 2 (A.deeper (PyProof.Rows.envOfC "_law_motion" (defScope s__law_motion) s.heap.objs.size f cdv))) :
    PSs (cxOf CX0 P w K mg base ["_law_deck_here", "_law_turn", "_law_wide"] "_law_motion" (defScope s__law_motion) f cdv A outer s H E).nox (defBody s__law_motion) (t__law_motion K) :=
    (pss_cons (ps_par (by rfl) sc__law_motion.nd rfl rfl (by decide) rfl rfl (pa_cons (pe_df D__law_pick hgd (hr.mono (by decide)) rfl (pa_cons (pv 0) (pa_cons (pe_df0 D__law_turns hgd (hr.mono (by decide)) rfl) pa_nil))) (pa_cons (pe_ifExp (pt_cmpR op_gtU (pe_df D__law_draw hgd (hr.mono (by decide)) rfl (pa_cons (pv 0) (pa_cons pe_int pa_nil))) pe_int (nomark _)) pe_int pe_int) pa_nil)) (by rfl))
      (pss_one (ps_ret (pe_tup (pa_cons (pv 1) (pa_cons (pe_op op_subV (pe_df D__law_draw hgd (hr.mono (by decide)) rfl (pa_cons (pv 0) (pa_cons (pv 2) pa_nil))) (pe_op op_fdiv (pv 2) pe_int)) (pa_cons (pe_op op_subV (pe_df D__law_draw hgd (hr.mono (by decide)) rfl (pa_cons (pv 0) (pa_cons (pv 2) pa_nil))) (pe_op op_fdiv (pv 2) pe_int)) pa_nil)))))))
abbrev s__law_is_motion : Stmt := topS 17
theorem sc__law_is_motion : FnScope ["_law_it", "_law_x"] ["_law_it"] (defScope s__law_is_motion) := ⟨rfl, rfl, rfl, by decide +kernel, rfl, by decide +kernel, by decide +kernel⟩
def t__law_is_motion (K : PySem.W.Frag) : TS :=
    (tSeq (tIfS (tOr (tNot (tB (tCB (rIsi K) (tCons (tVar 0) (tCons (tC (.ty "tuple")) tNil))))) (tOr (tTest (tOp (rEqV K true) (tCB (fun xs H Q => ∃ x n, xs = [x] ∧ LenV K x H n ∧ Q (.int n) H) (tCons (tVar 0) tNil)) (tC (.int 3)))) (tOr (tNot (tB (tCB (rIsi K) (tCons (tOp (rIx K) (tVar 0) (tC (.int 0))) (tCons (tC (.ty "str")) tNil))))) (tTest (tOp (rInU K true) (tOp (rIx K) (tVar 0) (tC (.int 0))) (tCall (spD K C__law_turns) [] E0 tNil)))))) (tRet (tC (.bl false))) tNext)
    (tRet (tOp (rEqW K false) (tLc (iTup K (tSl (rSlU K) (tVar 0) (tPart (tC (.int 1))) tNoPart)) (gName 1) (tOr (tNot (tB (tCB (rIsi K) (tCons (tVar 1) (tCons (tC (.ty "int")) tNil))))) (tB (tCB (rIsi K) (tCons (tVar 1) (tCons (tC (.ty "bool")) tNil))))) (tVar 1) [1]) (tLst tNil))))
set_option maxHeartbeats 4000000 in
theorem d__law_is_motion (T : Txt K mg) {f__law_turns : Addr} {fd__law_turns : FuncData} (D__law_turns : Df P w K mg base 1 "_law_turns" [] C__law_turns f__law_turns fd__law_turns) {f : Addr} {cdv : Value} {A : Around} {outer : List PySem.Env} {s : Shared} {H : Hp} {E : XK} (hgd : A.guards = some []) (hr : Room 1 (A.deeper (PyProof.Rows.envOfC "_law_is_motion" (defScope s__law_is_motion) s.heap.objs.size f cdv))) :
    PSs (cxOf CX0 P w K mg base ["_law_it", "_law_x"] "_law_is_motion" (defScope s__law_is_motion) f cdv A outer s H E).nox (defBody s__law_is_motion) (t__law_is_motion K) :=
    (pss_cons (ps_if (PW.pt (pw_or (pt_not (pt_val (pe_callB call_isi (by rfl) T.n_isinstance (by decide +kernel) (pa_cons (pv 0) (pa_cons (pe_bltn (v := .ty "tuple") (by rfl) T.n_tuple (by decide +kernel) rfl) pa_nil))))) (pw_or (pt_cmpR (op_neV hr.units) (pe_callB call_len (by rfl) T.n_len (by decide +kernel) (pa_cons (pv 0) pa_nil)) pe_int (nomark _)) (pw_or (pt_not (pt_val (pe_callB call_isi (by rfl) T.n_isinstance (by decide +kernel) (pa_cons (pe_ix ix_seq (pv 0) pe_int (fun _ _ => rfl)) (pa_cons (pe_bltn (v := .ty "str") (by rfl) T.n_str (by decide +kernel) rfl) pa_nil))))) (pw_or1 (pt_cmpR op_notInU (pe_ix ix_seq (pv 0) pe_int (fun _ _ => rfl)) (pe_df0 D__law_turns hgd (hr.mono (by decide)) rfl) rfl)))))) (pss_one (ps_ret pe_bl)) pss_nil)
      (pss_one (ps_ret (pe_cmpR (op_eqW hr.units) (pe_lc (own := [("_law_x", 1)]) rfl sc__law_is_motion.nd (pi_tup (pe_slice sl_U (pv 0) (po_some pe_int) po_none)) (blkOk_by (N := ["_law_it", "_law_x"]) (sc := defScope s__law_is_motion) (by decide +kernel)) (fun _ _ _ _ _ => (pg_name (i := 1) sc__law_is_motion.nd rfl (by first | exact .inl rfl | exact .inr rfl))) (fun _ _ _ _ _ => (pts_one (PW.pt (pw_or (pt_not (pt_val (pe_callB call_isi (by rfl) T.n_isinstance (by decide +kernel) (pa_cons (pv 1) (pa_cons (pe_bltn (v := .ty "int") (by rfl) T.n_int (by decide +kernel) rfl) pa_nil))))) (pw_or1 (pt_val (pe_callB call_isi (by rfl) T.n_isinstance (by decide +kernel) (pa_cons (pv 1) (pa_cons (pe_bltn (v := .ty "bool") (by rfl) T.n_bool (by decide +kernel) rfl) pa_nil))))))))) (fun _ _ _ _ _ => (pv 1))) (pe_lst pa_nil) (nomark _)))))
abbrev s__law_odd : Stmt := topS 18
theorem sc__law_odd : FnScope ["_law_deck_here", "_law_it", "_law_some"] ["_law_deck_here", "_law_it"] (defScope s__law_odd) := ⟨rfl, rfl, rfl, by decide +kernel, rfl, by decide +kernel, by decide +kernel⟩
def t__law_odd (K : PySem.W.Frag) : TS :=
    (tSeq (tAsg (tLst (tCons (tC .non) (tCons (tC (.bl true)) (tCons (tC (.bl false)) (tCons (tC (.int 0)) (tCons (tC (.int 1)) (tCons (tUn (rU fun i => .int (-i)) (tC (.int 1))) (tCons (tOp (rI CPow fun i j => .int (i ^ j.toNat)) (tC (.int 10)) (tC (.int 39))) (tCons (tC (.str "")) (tCons (tC (.str "e")) (tCons (tC (.str "ps")) (tCons (tC (.str "pe")) (tCons (tC (.str "ee")) (tCons (tC (.str "x")) (tCons (tC (.str "same")) (tCons (tC (.str "unlike")) tNil)))))))))))))))) (gName 2))
    (tSeq (tAsg (tOp (rAddV K) (tVar 2) (tLst (tCons (tTup tNil) (tCons (tTup (tCons (tC (.str "")) (tCons (tC (.int 0)) (tCons (tC (.int 0)) tNil)))) (tCons (tLst tNil) (tCons tDNewK tNil)))))) (gName 2))
    (tSeq (tIfS (tB (tCB (rIsi K) (tCons (tVar 1) (tCons (tC (.ty "int")) tNil)))) (tAsg (tOp (rAddV K) (tVar 2) (tOp rMulU (tLst (tCons (tOp (rAddV K) (tVar 1) (tC (.int 1))) (tCons (tOp rSubV (tVar 1) (tC (.int 1))) (tCons (tOp (rEqW K false) (tVar 1) (tC (.int 1))) (tCons (tCB rStrA (tCons (tVar 1) tNil)) tNil))))) (tC (.int 3)))) (gName 2)) tNext)
    (tSeq (tIfS (tB (tCB (rIsi K) (tCons (tVar 1) (tCons (tC (.ty "str")) tNil)))) (tAsg (tOp (rAddV K) (tVar 2) (tOp rMulU (tLst (tCons (tOp (rAddV K) (tVar 1) (tC (.str "w"))) (tCons (tSl (rSlU K) (tVar 1) (tPart (tC (.int 1))) tNoPart) (tCons (tOp (rAddV K) (tVar 1) (tC (.str "e"))) (tCons (tRevA K (tVar 1)) (tCons (tTup (tCons (tVar 1) tNil)) tNil)))))) (tC (.int 2)))) (gName 2)) tNext)
    (tSeq (tIfS (tB (tCB (rIsi K) (tCons (tVar 1) (tCons (tC (.ty "tuple")) tNil)))) (tAsg (tOp (rAddV K) (tVar 2) (tOp rMulU (tLst (tCons (tCB (rListA K) (tCons (tVar 1) tNil)) (tCons (tSl (rSlU K) (tVar 1) (tPart (tC (.int 1))) tNoPart) (tCons (tSl (rSlU K) (tVar 1) tNoPart (tPart (tUn (rU fun i => .int (-i)) (tC (.int 1))))) (tCons (tOp (rAddV K) (tVar 1) (tSl (rSlU K) (tVar 1) (tPart (tUn (rU fun i => .int (-i)) (tC (.int 1)))) tNoPart)) (tCons (tRevA K (tVar 1)) tNil)))))) (tC (.int 2)))) (gName 2)) tNext)
    (tRet (tCall (spD K C__law_pick) [] E0 (tCons (tVar 0) (tCons (tVar 2) tNil)))))))))
set_option maxHeartbeats 4000000 in
theorem d__law_odd (T : Txt K mg) {f__law_pick : Addr} {fd__law_pick : FuncData} (D__law_pick : Df P w K mg base 2 "_law_pick" ["_law_deck_here", "_law_some"] C__law_pick f__law_pick fd__law_pick) {f : Addr} {cdv : Value} {A : Around} {outer : List PySem.Env} {s : Shared} {H : Hp} {E : XK} (hgd : A.guards = some []) (hr : Room 2 (A.deeper (PyProof.Rows.envOfC "_law_odd" (defScope s__law_odd) s.heap.objs.size f cdv))) :
    PSs (cxOf CX0 P w K mg base ["_law_deck_here", "_law_it", "_law_some"] "_law_odd" (defScope s__law_odd) f cdv A outer s H E).nox (defBody s__law_odd) (t__law_odd K) :=
    (pss_cons (ps_set (i := 2) sc__law_odd.nd rfl (by first | exact .inl rfl | exact .inr rfl) (pe_lst (pa_cons pe_non (pa_cons pe_bl (pa_cons pe_bl (pa_cons pe_int (pa_cons pe_int (pa_cons (pe_un un_neg pe_int) (pa_cons (pe_op op_pow pe_int pe_int) (pa_cons pe_str (pa_cons pe_str (pa_cons pe_str (pa_cons pe_str (pa_cons pe_str (pa_cons pe_str (pa_cons pe_str (pa_cons pe_str pa_nil)))))))))))))))))
      (pss_cons (ps_set (i := 2) sc__law_odd.nd rfl (by first | exact .inl rfl | exact .inr rfl) (pe_op op_addV (pv 2) (pe_lst (pa_cons (pe_tup pa_nil) (pa_cons (pe_tup (pa_cons pe_str (pa_cons pe_int (pa_cons pe_int pa_nil)))) (pa_cons (pe_lst pa_nil) (pa_cons pe_dnewK pa_nil)))))))
      (pss_cons (ps_if (pt_val (pe_callB call_isi (by rfl) T.n_isinstance (by decide +kernel) (pa_cons (pv 1) (pa_cons (pe_bltn (v := .ty "int") (by rfl) T.n_int (by decide +kernel) rfl) pa_nil)))) (pss_one (ps_set (i := 2) sc__law_odd.nd rfl (by first | exact .inl rfl | exact .inr rfl) (pe_op op_addV (pv 2) (pe_op op_mulU (pe_lst (pa_cons (pe_op op_addV (pv 1) pe_int) (pa_cons (pe_op op_subV (pv 1) pe_int) (pa_cons (pe_cmpR (op_eqW hr.units) (pv 1) pe_int (nomark _)) (pa_cons (pe_callTy call_strA (by rfl) T.n_str (by decide +kernel) (pa_cons (pv 1) pa_nil)) pa_nil))))) pe_int)))) pss_nil)
      (pss_cons (ps_if (pt_val (pe_callB call_isi (by rfl) T.n_isinstance (by decide +kernel) (pa_cons (pv 1) (pa_cons (pe_bltn (v := .ty "str") (by rfl) T.n_str (by decide +kernel) rfl) pa_nil)))) (pss_one (ps_set (i := 2) sc__law_odd.nd rfl (by first | exact .inl rfl | exact .inr rfl) (pe_op op_addV (pv 2) (pe_op op_mulU (pe_lst (pa_cons (pe_op op_addV (pv 1) pe_str) (pa_cons (pe_slice sl_U (pv 1) (po_some pe_int) po_none) (pa_cons (pe_op op_addV (pv 1) pe_str) (pa_cons (pe_revA (pv 1)) (pa_cons (pe_tup (pa_cons (pv 1) pa_nil)) pa_nil)))))) pe_int)))) pss_nil)
      (pss_cons (ps_if (pt_val (pe_callB call_isi (by rfl) T.n_isinstance (by decide +kernel) (pa_cons (pv 1) (pa_cons (pe_bltn (v := .ty "tuple") (by rfl) T.n_tuple (by decide +kernel) rfl) pa_nil)))) (pss_one (ps_set (i := 2) sc__law_odd.nd rfl (by first | exact .inl rfl | exact .inr rfl) (pe_op op_addV (pv 2) (pe_op op_mulU (pe_lst (pa_cons (pe_callTy (call_listA rfl) (by rfl) T.n_list (by decide +kernel) (pa_cons (pv 1) pa_nil)) (pa_cons (pe_slice sl_U (pv 1) (po_some pe_int) po_none) (pa_cons (pe_slice sl_U (pv 1) po_none (po_some (pe_un un_neg pe_int))) (pa_cons (pe_op op_addV (pv 1) (pe_slice sl_U (pv 1) (po_some (pe_un un_neg pe_int)) po_none)) (pa_cons (pe_revA (pv 1)) pa_nil)))))) pe_int)))) pss_nil)
      (pss_one (ps_ret (pe_df D__law_pick hgd (hr.mono (by decide)) rfl (pa_cons (pv 0) (pa_cons (pv 2) pa_nil))))))))))
abbrev s__law_bent : Stmt := topS 19
theorem sc__law_bent : FnScope ["_law_deck_here", "_law_it", "_law_at"] ["_law_deck_here", "_law_it"] (defScope s__law_bent) := ⟨rfl, rfl, rfl, by decide +kernel, rfl, by decide +kernel, by decide +kernel⟩
def t__law_bent (K : PySem.W.Frag) (Cr : Ct) : TS :=
    (tSeq (tIfS (tOr (tNot (tB (tCB (rIsi K) (tCons (tVar 1) (tCons (tC (.ty "tuple")) tNil))))) (tOr (tTest (tOp (rEqW K false) (tVar 1) (tTup tNil))) (tTest (tOp (rEqW K false) (tCall (spD K C__law_draw) [] E0 (tCons (tVar 0) (tCons (tC (.int 5)) tNil))) (tC (.int 0)))))) (tRet (tCall (spD K C__law_odd) [] E0 (tCons (tVar 0) (tCons (tVar 1) tNil)))) tNext)
    (tSeq (tAsg (tCall (spD K C__law_draw) [] E0 (tCons (tVar 0) (tCons (tCB (fun xs H Q => ∃ x n, xs = [x] ∧ LenV K x H n ∧ Q (.int n) H) (tCons (tVar 1) tNil)) tNil))) (gName 2))
    (tRet (tOp (rAddV K) (tOp (rAddV K) (tSl (rSlU K) (tVar 1) tNoPart (tPart (tVar 2))) (tTup (tCons (tCall (spD K Cr) [] E0 (tCons (tVar 0) (tCons (tOp (rIx K) (tVar 1) (tVar 2)) tNil))) tNil))) (tSl (rSlU K) (tVar 1) (tPart (tOp (rAddV K) (tVar 2) (tC (.int 1)))) tNoPart)))))
set_option maxHeartbeats 4000000 in
theorem d__law_bent (T : Txt K mg) {f__law_draw : Addr} {fd__law_draw : FuncData} (D__law_draw : Df P w K mg base 1 "_law_draw" ["_law_deck_here", "_law_below"] C__law_draw f__law_draw fd__law_draw) {f__law_odd : Addr} {fd__law_odd : FuncData} (D__law_odd : Df P w K mg base 3 "_law_odd" ["_law_deck_here", "_law_it"] C__law_odd f__law_odd fd__law_odd) {k : Nat} {Cr : Ct} {f_self : Addr} {fd_self : FuncData} (D_self : Df P w K mg base (3 + k) "_law_bent" ["_law_deck_here", "_law_it"] Cr f_self fd_self) {f : Addr} {cdv : Value} {A : Around} {outer : List PySem.Env} {s : Shared} {H : Hp} {E : XK} (hgd : A.guards = some []) (hr : Room (3 + k) (A.deeper (PyProof.Rows.envOfC "_law_bent" (defScope s__law_bent) s.heap.objs.size f cdv))) :
    PSs (cxOf CX0 P w K mg base ["_law_deck_here", "_law_it", "_law_at"] "_law_bent" (defScope s__law_bent) f cdv A outer s H E).nox (defBody s__law_bent) (t__law_bent K Cr) :=
    (pss_cons (ps_if (PW.pt (pw_or (pt_not (pt_val (pe_callB call_isi (by rfl) T.n_isinstance (by decide +kernel) (pa_cons (pv 1) (pa_cons (pe_bltn (v := .ty "tuple") (by rfl) T.n_tuple (by decide +kernel) rfl) pa_nil))))) (pw_or (pt_cmpR (op_eqW hr.units) (pv 1) (pe_tup pa_nil) (nomark _)) (pw_or1 (pt_cmpR (op_eqW hr.units) (pe_df D__law_draw hgd (hr.mono (by omega)) rfl (pa_cons (pv 0) (pa_cons pe_int pa_nil))) pe_int (nomark _)))))) (pss_one (ps_ret (pe_df D__law_odd hgd (hr.mono (by omega)) rfl (pa_cons (pv 0) (pa_cons (pv 1) pa_nil))))) pss_nil)
      (pss_cons (ps_set (i := 2) sc__law_bent.nd rfl (by first | exact .inl rfl | exact .inr rfl) (pe_df D__law_draw hgd (hr.mono (by omega)) rfl (pa_cons (pv 0) (pa_cons (pe_callB call_len (by rfl) T.n_len (by decide +kernel) (pa_cons (pv 1) pa_nil)) pa_nil))))
      (pss_one (ps_ret (pe_op op_addV (pe_op op_addV (pe_slice sl_U (pv 1) po_none (po_some (pv 2))) (pe_tup (pa_cons (pe_df D_self hgd (hr.mono (by omega)) rfl (pa_cons (pv 0) (pa_cons (pe_ix ix_seq (pv 1) (pv 2) (fun _ _ => rfl)) pa_nil))) pa_nil))) (pe_slice sl_U (pv 1) (po_some (pe_op op_addV (pv 2) pe_int)) po_none))))))
abbrev s__law_one_right : Stmt := topS 20
theorem sc__law_one_right : FnScope ["_law_it", "_law_was", "_law_due"] ["_law_it"] (defScope s__law_one_right) := ⟨rfl, rfl, rfl, by decide +kernel, rfl, by decide +kernel, by decide +kernel⟩
def t__law_one_right (K : PySem.W.Frag) : TS :=
    (tSeq (tPar 1 2 (tCons (tCB (rRepr K) (tCons (tVar 0) tNil)) (tCons (tCall (spD K C__law_is_motion) [] E0 (tCons (tVar 0) tNil)) tNil)))
    (tRet (tAndV (tOp (rEqW K false) (tCB (rRepr K) (tCons (tLst (tCons (tCall (spD K C_is_motion) [] E0 (tCons (tVar 0) tNil)) (tCons (tCallK (spD K C_is_motion) gV_is_motion_thing E0 tNil (tCons (tVar 0) tNil)) tNil))) tNil)) (tCB (rRepr K) (tCons (tLst (tCons (tVar 2) (tCons (tVar 2) tNil))) tNil))) (tOp (rEqW K false) (tCB (rRepr K) (tCons (tVar 0) tNil)) (tVar 1)))))
set_option maxHeartbeats 4000000 in
theorem d__law_one_right (T : Txt K mg) {f__law_is_motion : Addr} {fd__law_is_motion : FuncData} (D__law_is_motion : Df P w K mg base 2 "_law_is_motion" ["_law_it"] C__law_is_motion f__law_is_motion fd__law_is_motion) {f_is_motion : Addr} {fd_is_motion : FuncData} (D_is_motion : Df P w K mg base 2 "is_motion" ["thing"] C_is_motion f_is_motion fd_is_motion) (kb_is_motion_thing : KBinds K fd_is_motion ["thing"] ["thing"] g_is_motion_thing gV_is_motion_thing) {f : Addr} {cdv : Value} {A : Around} {outer : List PySem.Env} {s : Shared} {H : Hp} {E : XK} (hgd : A.guards = some []) (hr : Room 2 (A.deeper (PyProof.Rows.envOfC "_law_one_right" (defScope s__law_one_right) s.heap.objs.size f cdv))) :
    PSs (cxOf CX0 P w K mg base ["_law_it", "_law_was", "_law_due"] "_law_one_right" (defScope s__law_one_right) f cdv A outer s H E).nox (defBody s__law_one_right) (t__law_one_right K) :=
    (pss_cons (ps_par (by rfl) sc__law_one_right.nd rfl rfl (by decide) rfl rfl (pa_cons (pe_callB (call_repr hgd hr) (by rfl) T.n_repr (by decide +kernel) (pa_cons (pv 0) pa_nil)) (pa_cons (pe_df D__law_is_motion hgd (hr.mono (by decide)) rfl (pa_cons (pv 0) pa_nil)) pa_nil)) (by rfl))
      (pss_one (ps_ret (pe_and (pe_cmpR (op_eqW hr.units) (pe_callB (call_repr hgd hr) (by rfl) T.n_repr (by decide +kernel) (pa_cons (pe_lst (pa_cons (pe_df D_is_motion hgd (hr.mono (by decide)) rfl (pa_cons (pv 0) pa_nil)) (pa_cons (pe_dfK0 D_is_motion kb_is_motion_thing hgd (hr.mono (by decide)) rfl (pk_cons (pv 0) pk_nil)) pa_nil))) pa_nil)) (pe_callB (call_repr hgd hr) (by rfl) T.n_repr (by decide +kernel) (pa_cons (pe_lst (pa_cons (pv 2) (pa_cons (pv 2) pa_nil))) pa_nil)) (nomark _)) (pe_one (pe_cmpR (op_eqW hr.units) (pe_callB (call_repr hgd hr) (by rfl) T.n_repr (by decide +kernel) (pa_cons (pv 0) pa_nil)) (pv 1) (nomark _)))))))
abbrev s__law_two_right : Stmt := topS 21
theorem sc__law_two_right : FnScope ["_law_near", "_law_far", "_law_due", "_law_told", "_law_spot"] ["_law_near", "_law_far"] (defScope s__law_two_right) := ⟨rfl, rfl, rfl, by decide +kernel, rfl, by decide +kernel, by decide +kernel⟩
def t__law_two_right (K : PySem.W.Frag) : TS :=
    (tSeq (tPar 2 3 (tCons (tCall (spD K C__law_behind) [] E0 (tCons (tVar 0) (tCons (tVar 1) tNil))) (tCons (tCall (spD K C_behind) [] E0 (tCons (tVar 0) (tCons (tVar 1) tNil))) tNil)))
    (tSeq (tIfS (tTest (tOp (rEqV K true) (tCB (rRepr K) (tCons (tLst (tCons (tVar 3) (tCons (tCallK (spD K C_behind) gV_behind_other_one E0 tNil (tCons (tVar 1) (tCons (tVar 0) tNil))) tNil))) tNil)) (tCB (rRepr K) (tCons (tLst (tCons (tVar 2) (tCons (tVar 2) tNil))) tNil)))) (tRet (tC (.bl false))) tNext)
    (tSeq (tFor (iTup K (tTup (tCons (tTup (tCons (tC (.str "end")) (tCons (tC (.int 0)) tNil))) (tCons (tTup (tCons (tC (.str "end")) (tCons (tC (.int 1)) tNil))) (tCons (tTup (tCons (tC (.str "end")) (tCons (tUn (rU fun i => .int (-i)) (tC (.int 7))) tNil))) (tCons (tTup (tCons (tC (.str "pick")) (tCons (tC (.int 0)) tNil))) (tCons (tTup (tCons (tC (.str "pick")) (tCons (tC (.int 1)) tNil))) (tCons (tTup (tCons (tC (.str "pick")) (tCons (tC (.int 9)) tNil))) tNil)))))))) (gName 4) (tIfS (tTest (tOp (rEqV K true) (tCall (spD K C__law_led) [] E0 (tCons (tVar 3) (tCons (tVar 4) tNil))) (tCall (spD K C__law_led) [] E0 (tCons (tVar 1) (tCons (tCall (spD K C__law_led) [] E0 (tCons (tVar 0) (tCons (tVar 4) tNil))) tNil))))) (tRet (tC (.bl false))) tNext))
    (tRet (tC (.bl true))))))
set_option maxHeartbeats 4000000 in
theorem d__law_two_right (T : Txt K mg) {f__law_behind : Addr} {fd__law_behind : FuncData} (D__law_behind : Df P w K mg base 1 "_law_behind" ["_law_near", "_law_far"] C__law_behind f__law_behind fd__law_behind) {f__law_led : Addr} {fd__law_led : FuncData} (D__law_led : Df P w K mg base 1 "_law_led" ["_law_act", "_law_spot"] C__law_led f__law_led fd__law_led) {f_behind : Addr} {fd_behind : FuncData} (D_behind : Df P w K mg base 2 "behind" ["one", "other"] C_behind f_behind fd_behind) (kb_behind_other_one : KBinds K fd_behind ["one", "other"] ["other", "one"] g_behind_other_one gV_behind_other_one) {f : Addr} {cdv : Value} {A : Around} {outer : List PySem.Env} {s : Shared} {H : Hp} {E : XK} (hgd : A.guards = some []) (hr : Room 2 (A.deeper (PyProof.Rows.envOfC "_law_two_right" (defScope s__law_two_right) s.heap.objs.size f cdv))) :
    PSs (cxOf CX0 P w K mg base ["_law_near", "_law_far", "_law_due", "_law_told", "_law_spot"] "_law_two_right" (defScope s__law_two_right) f cdv A outer s H E).nox (defBody s__law_two_right) (t__law_two_right K) :=
    (pss_cons (ps_par (by rfl) sc__law_two_right.nd rfl rfl (by decide) rfl rfl (pa_cons (pe_df D__law_behind hgd (hr.mono (by decide)) rfl (pa_cons (pv 0) (pa_cons (pv 1) pa_nil))) (pa_cons (pe_df D_behind hgd (hr.mono (by decide)) rfl (pa_cons (pv 0) (pa_cons (pv 1) pa_nil))) pa_nil)) (by rfl))
      (pss_cons (ps_if (pt_cmpR (op_neV hr.units) (pe_callB (call_repr hgd hr) (by rfl) T.n_repr (by decide +kernel) (pa_cons (pe_lst (pa_cons (pv 3) (pa_cons (pe_dfK0 D_behind kb_behind_other_one hgd (hr.mono (by decide)) rfl (pk_cons (pv 1) (pk_cons (pv 0) pk_nil))) pa_nil))) pa_nil)) (pe_callB (call_repr hgd hr) (by rfl) T.n_repr (by decide +kernel) (pa_cons (pe_lst (pa_cons (pv 2) (pa_cons (pv 2) pa_nil))) pa_nil)) (nomark _)) (pss_one (ps_ret pe_bl)) pss_nil)
      (pss_cons (ps_for PassesOwn.never rfl (pi_tup (pe_tup (pa_cons (pe_tup (pa_cons pe_str (pa_cons pe_int pa_nil))) (pa_cons (pe_tup (pa_cons pe_str (pa_cons pe_int pa_nil))) (pa_cons (pe_tup (pa_cons pe_str (pa_cons (pe_un un_neg pe_int) pa_nil))) (pa_cons (pe_tup (pa_cons pe_str (pa_cons pe_int pa_nil))) (pa_cons (pe_tup (pa_cons pe_str (pa_cons pe_int pa_nil))) (pa_cons (pe_tup (pa_cons pe_str (pa_cons pe_int pa_nil))) pa_nil)))))))) (pg_name (i := 4) sc__law_two_right.nd rfl (by first | exact .inl rfl | exact .inr rfl)) (pss_one (ps_if (pt_cmpR (op_neV hr.units) (pe_df D__law_led hgd (hr.mono (by decide)) rfl (pa_cons (pv 3) (pa_cons (pv 4) pa_nil))) (pe_df D__law_led hgd (hr.mono (by decide)) rfl (pa_cons (pv 1) (pa_cons (pe_df D__law_led hgd (hr.mono (by decide)) rfl (pa_cons (pv 0) (pa_cons (pv 4) pa_nil))) pa_nil))) (nomark _)) (pss_one (ps_ret pe_bl)) pss_nil)))
      (pss_one (ps_ret pe_bl)))))
abbrev s__law_back_right : Stmt := topS 22
theorem sc__law_back_right : FnScope ["_law_near", "_law_home"] ["_law_near"] (defScope s__law_back_right) := ⟨rfl, rfl, rfl, by decide +kernel, rfl, by decide +kernel, by decide +kernel⟩
def t__law_back_right (K : PySem.W.Frag) : TS :=
    (tSeq (tAsg (tCall (spD K C_back_of) [] E0 (tCons (tVar 0) tNil)) (gName 1))
    (tSeq (tIfS (tOr (tTest (tOp (rEqV K true) (tCB (rRepr K) (tCons (tCallK (spD K C_back_of) gV_back_of_motion E0 tNil (tCons (tVar 0) tNil)) tNil)) (tCB (rRepr K) (tCons (tVar 1) tNil)))) (tOr (tNot (tB (tCall (spD K C__law_is_motion) [] E0 (tCons (tVar 1) tNil)))) (tTest (tOp (rEqV K true) (tCall (spD K C_back_of) [] E0 (tCons (tVar 1) tNil)) (tVar 0))))) (tRet (tC (.bl false))) tNext)
    (tRet (tOp (rEqW K false) (tLst (tCons (tCall (spD K C_behind) [] E0 (tCons (tVar 0) (tCons (tVar 1) tNil))) (tCons (tCall (spD K C_behind) [] E0 (tCons (tVar 1) (tCons (tVar 0) tNil))) (tCons (tCall (spD K C__law_behind) [] E0 (tCons (tVar 0) (tCons (tVar 1) tNil))) tNil)))) (tOp rMulU (tLst (tCons (tTup (tCons (tC (.str "")) (tCons (tC (.int 0)) (tCons (tC (.int 0)) tNil)))) tNil)) (tC (.int 3)))))))
set_option maxHeartbeats 4000000 in
theorem d__law_back_right (T : Txt K mg) {f__law_behind : Addr} {fd__law_behind : FuncData} (D__law_behind : Df P w K mg base 1 "_law_behind" ["_law_near", "_law_far"] C__law_behind f__law_behind fd__law_behind) {f__law_is_motion : Addr} {fd__law_is_motion : FuncData} (D__law_is_motion : Df P w K mg base 2 "_law_is_motion" ["_law_it"] C__law_is_motion f__law_is_motion fd__law_is_motion) {f_back_of : Addr} {fd_back_of : FuncData} (D_back_of : Df P w K mg base 1 "back_of" ["motion"] C_back_of f_back_of fd_back_of) {f_behind : Addr} {fd_behind : FuncData} (D_behind : Df P w K mg base 2 "behind" ["one", "other"] C_behind f_behind fd_behind) (kb_back_of_motion : KBinds K fd_back_of ["motion"] ["motion"] g_back_of_motion gV_back_of_motion) {f : Addr} {cdv : Value} {A : Around} {outer : List PySem.Env} {s : Shared} {H : Hp} {E : XK} (hgd : A.guards = some []) (hr : Room 2 (A.deeper (PyProof.Rows.envOfC "_law_back_right" (defScope s__law_back_right) s.heap.objs.size f cdv))) :
    PSs (cxOf CX0 P w K mg base ["_law_near", "_law_home"] "_law_back_right" (defScope s__law_back_right) f cdv A outer s H E).nox (defBody s__law_back_right) (t__law_back_right K) :=
    (pss_cons (ps_set (i := 1) sc__law_back_right.nd rfl (by first | exact .inl rfl | exact .inr rfl) (pe_df D_back_of hgd (hr.mono (by decide)) rfl (pa_cons (pv 0) pa_nil)))
      (pss_cons (ps_if (PW.pt (pw_or (pt_cmpR (op_neV hr.units) (pe_callB (call_repr hgd hr) (by rfl) T.n_repr (by decide +kernel) (pa_cons (pe_dfK0 D_back_of kb_back_of_motion hgd (hr.mono (by decide)) rfl (pk_cons (pv 0) pk_nil)) pa_nil)) (pe_callB (call_repr hgd hr) (by rfl) T.n_repr (by decide +kernel) (pa_cons (pv 1) pa_nil)) (nomark _)) (pw_or (pt_not (pt_val (pe_df D__law_is_motion hgd (hr.mono (by decide)) rfl (pa_cons (pv 1) pa_nil)))) (pw_or1 (pt_cmpR (op_neV hr.units) (pe_df D_back_of hgd (hr.mono (by decide)) rfl (pa_cons (pv 1) pa_nil)) (pv 0) (nomark _)))))) (pss_one (ps_ret pe_bl)) pss_nil)
      (pss_one (ps_ret (pe_cmpR (op_eqW hr.units) (pe_lst (pa_cons (pe_df D_behind hgd (hr.mono (by decide)) rfl (pa_cons (pv 0) (pa_cons (pv 1) pa_nil))) (pa_cons (pe_df D_behind hgd (hr.mono (by decide)) rfl (pa_cons (pv 1) (pa_cons (pv 0) pa_nil))) (pa_cons (pe_df D__law_behind hgd (hr.mono (by decide)) rfl (pa_cons (pv 0) (pa_cons (pv 1) pa_nil))) pa_nil)))) (pe_op op_mulU (pe_lst (pa_cons (pe_tup (pa_cons pe_str (pa_cons pe_int (pa_cons pe_int pa_nil)))) pa_nil)) pe_int) (nomark _))))))
abbrev s_law : Stmt := topS 23
theorem sc_law : FnScope ["_law_script", "_law_deck_here", "_law_go", "_law_some", "_law_whole", "_law_bent_here", "_law_lot", "_law_k", "_law_it"] ["_law_script"] (defScope s_law) := ⟨rfl, rfl, rfl, by decide +kernel, rfl, by decide +kernel, by decide +kernel⟩
def t_law (K : PySem.W.Frag) : TS :=
    (tSeq (tAsg (tCall (spD K C__law_deck) [] E0 (tCons (tVar 0) tNil)) (gName 1))
    (tSeq (tFor (iRng1 (tCons (tC (.int 5)) tNil)) (gName 2) (tSeq (tAsg (tLc (iRng1 (tCons (tC (.int 3)) tNil)) (gName 7) tYes (tCall (spD K C__law_motion) [] E0 (tCons (tVar 1) tNil)) [7]) (gName 3))
    (tSeq (tIfS (tOr (tNot (tB (tCall (spD K C__law_two_right) [] E0 (tCons (tOp (rIx K) (tVar 3) (tC (.int 0))) (tCons (tOp (rIx K) (tVar 3) (tC (.int 1))) tNil))))) (tNot (tB (tCall (spD K C__law_back_right) [] E0 (tCons (tOp (rIx K) (tVar 3) (tC (.int 2))) tNil))))) (tRet (tC (.bl false))) tNext)
    (tSeq (tAsg (tCall (spD K C_behind) [] E0 (tCons (tCall (spD K C_behind) [] E0 (tCons (tOp (rIx K) (tVar 3) (tC (.int 0))) (tCons (tOp (rIx K) (tVar 3) (tC (.int 1))) tNil))) (tCons (tOp (rIx K) (tVar 3) (tC (.int 2))) tNil))) (gName 4))
    (tSeq (tIfS (tTest (tOp (rEqV K true) (tVar 4) (tCall (spD K C_behind) [] E0 (tCons (tOp (rIx K) (tVar 3) (tC (.int 0))) (tCons (tCall (spD K C_behind) [] E0 (tCons (tOp (rIx K) (tVar 3) (tC (.int 1))) (tCons (tOp (rIx K) (tVar 3) (tC (.int 2))) tNil))) tNil))))) (tRet (tC (.bl false))) tNext)
    (tSeq (tAsg (tCall (spD K C__law_bent) [] E0 (tCons (tVar 1) (tCons (tOp (rIx K) (tVar 3) (tC (.int 0))) tNil))) (gName 5))
    (tSeq (tAsg (tOp (rAddV K) (tVar 3) (tLst (tCons (tVar 5) (tCons (tCall (spD K C__law_bent) [] E0 (tCons (tVar 1) (tCons (tVar 5) tNil))) (tCons (tCB (rListA K) (tCons (tOp (rIx K) (tVar 3) (tC (.int 1))) tNil)) (tCons (tOp (rAddV K) (tOp (rIx K) (tVar 3) (tC (.int 2))) (tTup (tCons (tC (.int 0)) tNil))) (tCons (tOp (rAddV K) (tTup (tCons (tOp (rAddV K) (tOp (rIx K) (tOp (rIx K) (tVar 3) (tC (.int 0))) (tC (.int 0))) (tC (.str "e"))) tNil)) (tSl (rSlU K) (tOp (rIx K) (tVar 3) (tC (.int 0))) (tPart (tC (.int 1))) tNoPart)) tNil))))))) (gName 6))
    (tIfS (tTest (tOp (rEqV K true) (tLc (iList K (tVar 6)) (gName 8) (tNot (tB (tCall (spD K C__law_one_right) [] E0 (tCons (tVar 8) tNil)))) (tVar 8) [8]) (tLst tNil))) (tRet (tC (.bl false))) tNext))))))))
    (tSeq (tAsg (tLst (tCons (tC .non) (tCons (tC (.int 0)) (tCons (tC (.str "")) (tCons (tC (.str "e")) (tCons (tTup tNil) (tCons (tTup (tCons (tC (.str "")) (tCons (tC (.int 0)) (tCons (tC (.int 0)) tNil)))) (tCons (tTup (tCons (tC (.str "pe")) (tCons (tC (.int 0)) (tCons (tC (.int 0)) tNil)))) (tCons (tTup (tCons (tC (.str "ww")) (tCons (tC (.int 1)) (tCons (tC (.int 1)) tNil)))) (tCons (tTup (tCons (tC (.str "")) (tCons (tC (.bl true)) (tCons (tC (.int 0)) tNil)))) (tCons (tTup (tCons (tC (.str "")) (tCons (tC (.int 0)) tNil))) (tCons (tTup (tCons (tC (.str "")) (tCons (tC (.int 0)) (tCons (tC .non) tNil)))) tNil)))))))))))) (gName 3))
    (tSeq (tAsg (tOp (rAddV K) (tVar 3) (tLst (tCons (tTup (tCons (tC (.str "epsw")) (tCons (tOp (rI CPow fun i j => .int (i ^ j.toNat)) (tC (.int 10)) (tC (.int 39))) (tCons (tUn (rU fun i => .int (-i)) (tC (.int 5))) tNil)))) (tCons (tTup (tCons (tC (.str "E")) (tCons (tC (.int 0)) (tCons (tC (.int 0)) tNil)))) (tCons (tLst (tCons (tTup (tCons (tC (.str "")) (tCons (tC (.int 0)) (tCons (tC (.int 0)) tNil)))) tNil)) (tCons tDNewK (tCons (tTup (tCons (tC (.str "")) (tCons (tC (.int 0)) (tCons (tC (.int 1)) (tCons (tC (.int 2)) tNil))))) (tCons (tTup (tCons (tTup tNil) (tCons (tC (.int 0)) (tCons (tC (.int 0)) tNil)))) tNil)))))))) (gName 3))
    (tRet (tOp (rEqW K false) (tLc (iList K (tVar 3)) (gName 8) (tNot (tB (tCall (spD K C__law_one_right) [] E0 (tCons (tVar 8) tNil)))) (tVar 8) [8]) (tLst tNil)))))))
set_option maxHeartbeats 4000000 in
theorem d_law (T : Txt K mg) {f__law_back_right : Addr} {fd__law_back_right : FuncData} (D__law_back_right : Df P w K mg base 3 "_law_back_right" ["_law_near"] C__law_back_right f__law_back_right fd__law_back_right) {f__law_bent : Addr} {fd__law_bent : FuncData} (D__law_bent : Df P w K mg base 44 "_law_bent" ["_law_deck_here", "_law_it"] C__law_bent f__law_bent fd__law_bent) {f__law_deck : Addr} {fd__law_deck : FuncData} (D__law_deck : Df P w K mg base 1 "_law_deck" ["_law_script"] C__law_deck f__law_deck fd__law_deck) {f__law_motion : Addr} {fd__law_motion : FuncData} (D__law_motion : Df P w K mg base 3 "_law_motion" ["_law_deck_here"] C__law_motion f__law_motion fd__law_motion) {f__law_one_right : Addr} {fd__law_one_right : FuncData} (D__law_one_right : Df P w K mg base 3 "_law_one_right" ["_law_it"] C__law_one_right f__law_one_right fd__law_one_right) {f__law_two_right : Addr} {fd__law_two_right : FuncData} (D__law_two_right : Df P w K mg base 3 "_law_two_right" ["_law_near", "_law_far"] C__law_two_right f__law_two_right fd__law_two_right) {f_behind : Addr} {fd_behind : FuncData} (D_behind : Df P w K mg base 2 "behind" ["one", "other"] C_behind f_behind fd_behind) {f : Addr} {cdv : Value} {A : Around} {outer : List PySem.Env} {s : Shared} {H : Hp} {E : XK} (hgd : A.guards = some []) (hr : Room 44 (A.deeper (PyProof.Rows.envOfC "law" (defScope s_law) s.heap.objs.size f cdv))) :
    PSs (cxOf CX0 P w K mg base ["_law_script", "_law_deck_here", "_law_go", "_law_some", "_law_whole", "_law_bent_here", "_law_lot", "_law_k", "_law_it"] "law" (defScope s_law) f cdv A outer s H E).nox (defBody s_law) (t_law K) :=
    (pss_cons (ps_set (i := 1) sc_law.nd rfl (by first | exact .inl rfl | exact .inr rfl) (pe_df D__law_deck hgd (hr.mono (by decide)) rfl (pa_cons (pv 0) pa_nil)))
      (pss_cons (ps_for PassesOwn.never rfl (pi_range1 rfl T.n_range (pa_cons pe_int pa_nil)) (pg_name (i := 2) sc_law.nd rfl (by first | exact .inl rfl | exact .inr rfl)) (pss_cons (ps_setLc (i := 3) (own := [("_law_k", 7)]) rfl sc_law.nd rfl rfl (sw_true rfl rfl rfl (by decide +kernel)) (pi_range1 rfl T.n_range (pa_cons pe_int pa_nil)) (blkOk_by (N := ["_law_script", "_law_deck_here", "_law_go", "_law_some", "_law_whole", "_law_bent_here", "_law_lot", "_law_k", "_law_it"]) (sc := defScope s_law) (by decide +kernel)) (fun _ _ _ _ _ => (pg_name (i := 7) sc_law.nd rfl (by first | exact .inl rfl | exact .inr rfl))) (fun _ _ _ _ _ => pts_nil) (fun _ _ _ _ _ => (pe_df D__law_motion hgd (hr.mono (by decide)) rfl (pa_cons (pv 1) pa_nil))))
      (pss_cons (ps_if (PW.pt (pw_or (pt_not (pt_val (pe_df D__law_two_right hgd (hr.mono (by decide)) rfl (pa_cons (pe_ix ix_seq (pv 3) pe_int (fun _ _ => rfl)) (pa_cons (pe_ix ix_seq (pv 3) pe_int (fun _ _ => rfl)) pa_nil))))) (pw_or1 (pt_not (pt_val (pe_df D__law_back_right hgd (hr.mono (by decide)) rfl (pa_cons (pe_ix ix_seq (pv 3) pe_int (fun _ _ => rfl)) pa_nil))))))) (pss_one (ps_ret pe_bl)) pss_nil)
      (pss_cons (ps_set (i := 4) sc_law.nd rfl (by first | exact .inl rfl | exact .inr rfl) (pe_df D_behind hgd (hr.mono (by decide)) rfl (pa_cons (pe_df D_behind hgd (hr.mono (by decide)) rfl (pa_cons (pe_ix ix_seq (pv 3) pe_int (fun _ _ => rfl)) (pa_cons (pe_ix ix_seq (pv 3) pe_int (fun _ _ => rfl)) pa_nil))) (pa_cons (pe_ix ix_seq (pv 3) pe_int (fun _ _ => rfl)) pa_nil))))
      (pss_cons (ps_if (pt_cmpR (op_neV hr.units) (pv 4) (pe_df D_behind hgd (hr.mono (by decide)) rfl (pa_cons (pe_ix ix_seq (pv 3) pe_int (fun _ _ => rfl)) (pa_cons (pe_df D_behind hgd (hr.mono (by decide)) rfl (pa_cons (pe_ix ix_seq (pv 3) pe_int (fun _ _ => rfl)) (pa_cons (pe_ix ix_seq (pv 3) pe_int (fun _ _ => rfl)) pa_nil))) pa_nil))) (nomark _)) (pss_one (ps_ret pe_bl)) pss_nil)
      (pss_cons (ps_set (i := 5) sc_law.nd rfl (by first | exact .inl rfl | exact .inr rfl) (pe_df D__law_bent hgd (hr.mono (by decide)) rfl (pa_cons (pv 1) (pa_cons (pe_ix ix_seq (pv 3) pe_int (fun _ _ => rfl)) pa_nil))))
      (pss_cons (ps_set (i := 6) sc_law.nd rfl (by first | exact .inl rfl | exact .inr rfl) (pe_op op_addV (pv 3) (pe_lst (pa_cons (pv 5) (pa_cons (pe_df D__law_bent hgd (hr.mono (by decide)) rfl (pa_cons (pv 1) (pa_cons (pv 5) pa_nil))) (pa_cons (pe_callTy (call_listA rfl) (by rfl) T.n_list (by decide +kernel) (pa_cons (pe_ix ix_seq (pv 3) pe_int (fun _ _ => rfl)) pa_nil)) (pa_cons (pe_op op_addV (pe_ix ix_seq (pv 3) pe_int (fun _ _ => rfl)) (pe_tup (pa_cons pe_int pa_nil))) (pa_cons (pe_op op_addV (pe_tup (pa_cons (pe_op op_addV (pe_ix ix_seq (pe_ix ix_seq (pv 3) pe_int (fun _ _ => rfl)) pe_int (fun _ _ => rfl)) pe_str) pa_nil)) (pe_slice sl_U (pe_ix ix_seq (pv 3) pe_int (fun _ _ => rfl)) (po_some pe_int) po_none)) pa_nil))))))))
      (pss_one (ps_if (pt_cmpR (op_neV hr.units) (pe_lc (own := [("_law_it", 8)]) rfl sc_law.nd (pi_list (pv 6)) (blkOk_by (N := ["_law_script", "_law_deck_here", "_law_go", "_law_some", "_law_whole", "_law_bent_here", "_law_lot", "_law_k", "_law_it"]) (sc := defScope s_law) (by decide +kernel)) (fun _ _ _ _ _ => (pg_name (i := 8) sc_law.nd rfl (by first | exact .inl rfl | exact .inr rfl))) (fun _ _ _ _ _ => (pts_one (pt_not (pt_val (pe_df D__law_one_right hgd (hr.mono (by decide)) rfl (pa_cons (pv 8) pa_nil)))))) (fun _ _ _ _ _ => (pv 8))) (pe_lst pa_nil) (nomark _)) (pss_one (ps_ret pe_bl)) pss_nil)))))))))
      (pss_cons (ps_set (i := 3) sc_law.nd rfl (by first | exact .inl rfl | exact .inr rfl) (pe_lst (pa_cons pe_non (pa_cons pe_int (pa_cons pe_str (pa_cons pe_str (pa_cons (pe_tup pa_nil) (pa_cons (pe_tup (pa_cons pe_str (pa_cons pe_int (pa_cons pe_int pa_nil)))) (pa_cons (pe_tup (pa_cons pe_str (pa_cons pe_int (pa_cons pe_int pa_nil)))) (pa_cons (pe_tup (pa_cons pe_str (pa_cons pe_int (pa_cons pe_int pa_nil)))) (pa_cons (pe_tup (pa_cons pe_str (pa_cons pe_bl (pa_cons pe_int pa_nil)))) (pa_cons (pe_tup (pa_cons pe_str (pa_cons pe_int pa_nil))) (pa_cons (pe_tup (pa_cons pe_str (pa_cons pe_int (pa_cons pe_non pa_nil)))) pa_nil)))))))))))))
      (pss_cons (ps_set (i := 3) sc_law.nd rfl (by first | exact .inl rfl | exact .inr rfl) (pe_op op_addV (pv 3) (pe_lst (pa_cons (pe_tup (pa_cons pe_str (pa_cons (pe_op op_pow pe_int pe_int) (pa_cons (pe_un un_neg pe_int) pa_nil)))) (pa_cons (pe_tup (pa_cons pe_str (pa_cons pe_int (pa_cons pe_int pa_nil)))) (pa_cons (pe_lst (pa_cons (pe_tup (pa_cons pe_str (pa_cons pe_int (pa_cons pe_int pa_nil)))) pa_nil)) (pa_cons pe_dnewK (pa_cons (pe_tup (pa_cons pe_str (pa_cons pe_int (pa_cons pe_int (pa_cons pe_int pa_nil))))) (pa_cons (pe_tup (pa_cons (pe_tup pa_nil) (pa_cons pe_int (pa_cons pe_int pa_nil)))) pa_nil)))))))))
      (pss_one (ps_ret (pe_cmpR (op_eqW hr.units) (pe_lc (own := [("_law_it", 8)]) rfl sc_law.nd (pi_list (pv 3)) (blkOk_by (N := ["_law_script", "_law_deck_here", "_law_go", "_law_some", "_law_whole", "_law_bent_here", "_law_lot", "_law_k", "_law_it"]) (sc := defScope s_law) (by decide +kernel)) (fun _ _ _ _ _ => (pg_name (i := 8) sc_law.nd rfl (by first | exact .inl rfl | exact .inr rfl))) (fun _ _ _ _ _ => (pts_one (pt_not (pt_val (pe_df D__law_one_right hgd (hr.mono (by decide)) rfl (pa_cons (pv 8) pa_nil)))))) (fun _ _ _ _ _ => (pv 8))) (pe_lst pa_nil) (nomark _))))))))
end
end K59

set_option Elab.async false
set_option linter.all false
set_option maxRecDepth 100000
set_option maxHeartbeats 2000000
namespace K59
open PySem PySem.Spec L2 DL
local macro_rules | `(tactic| walk_at "se") => `(tactic| first | with_reducible exact se_0 | ((with_reducible refine' se_s ?h); (case h => walk_at "se")))
local macro_rules | `(tactic| walk_at "wp") => `(tactic| first | with_reducible exact wipe_nil | ((with_reducible refine' wipe_cons ?h1 ?h2); (case h1 => walk_at "wp"); (case h2 => walk_at "se")))
local macro_rules | `(tactic| walk_at "d1") => `(tactic| first
  | ((with_reducible refine' ed_var ?h ?_); (case h => rfl)) | with_reducible refine' ed_op ?_ | with_reducible refine' ed_int ?_ | with_reducible refine' ed_str ?_
  | with_reducible refine' sd_seq ?_ | with_reducible refine' sd_if ?_ | with_reducible refine' sd_asgN ?_ | ((with_reducible refine' env_mk ?h ?_); (case h => walk_at "se")) | with_reducible refine' sd_ret ?_ | with_reducible refine' sd_next ?_ | with_reducible refine' sd_retN ?_
  | with_reducible refine' td_tst ?_ | with_reducible refine' td_b ?_ | with_reducible refine' td_tru ?_ | with_reducible refine' tru_b ?_ | with_reducible refine' tru_i ?_ | with_reducible refine' tru_l ?_ | with_reducible refine' tru_t ?_ | with_reducible refine' tru_n ?_ | with_reducible refine' td_not ?_ | with_reducible refine' td_and ?_ | with_reducible refine' td_or ?_ | with_reducible refine' td_yes ?_
  | with_reducible refine' isBl_mk ?_
  | with_reducible refine' ed_bl ?_ | with_reducible refine' ed_non ?_
  | with_reducible refine' ed_un ?_ | with_reducible refine' ed_if ?_ | with_reducible refine' ed_and ?_ | with_reducible refine' ed_or ?_ | with_reducible refine' ed_not ?_
  | with_reducible refine' ed_tup ?_ | with_reducible refine' ed_lst ?_ | with_reducible refine' ad_cons ?_ | with_reducible refine' ad_nil ?_ | ((with_reducible refine' ed_is2 ?h ?_); (case h => decide)) | ((with_reducible refine' is_mk (b := true) ?h ?_); (case h => rfl)) | ((with_reducible refine' is_mk (b := false) ?h ?_); (case h => rfl)) | with_reducible refine' ite_t ?_ | with_reducible refine' ite_f ?_ | with_reducible refine' ite_nt ?_ | with_reducible refine' ite_nf ?_ | with_reducible refine' ed_callB ?_ | with_reducible refine' ed_call ?_
  | with_reducible refine' oa_i ?_ | with_reducible refine' os_i ?_ | with_reducible refine' ud_neg ?_ | with_reducible refine' od_cmp ?_ | with_reducible refine' cd_int ?_
  | ((with_reducible refine' od_is ?h ?_); (case h => decide +kernel)) | ((with_reducible refine' od_nis ?h ?_); (case h => decide +kernel))
  | with_reducible refine' ow_s ?_ | with_reducible refine' ow_i ?_ | with_reducible refine' ow_b ?_ | with_reducible refine' ow_e ?_ | with_reducible refine' ow_z ?_ | with_reducible refine' nv_s ?_ | with_reducible refine' nv_i ?_ | with_reducible refine' nv_bb ?_
  | ((with_reducible refine' od_ixt ?h ?_); (case h => rfl)) | ((with_reducible refine' od_ixl ?h ?_); (case h => rfl)) | ((with_reducible refine' ix_s ?h1 ?h2 ?_); (case h1 => (refine Nat.le_of_ble_eq_true ?_; rfl)); (case h2 => rfl))
  | with_reducible refine' ed_sl ?_ | with_reducible refine' pd_none ?_ | with_reducible refine' pd_some ?_ | with_reducible refine' pd_int ?_ | with_reducible refine' sl_scr ?_ | with_reducible refine' sl_lst ?_ | with_reducible refine' sl_tup ?_ | with_reducible refine' sl_str ?_ ?_
  | with_reducible refine' ed_revA ?_ | with_reducible refine' rv_lst ?_ | with_reducible refine' rv_tup ?_ | with_reducible refine' cd_listL ?_ | with_reducible refine' cd_listT ?_ | with_reducible refine' cd_sum ?_ | with_reducible refine' cd_all ?_
  | with_reducible refine' ed_disp2 ?_ | with_reducible refine' ppd_nil ?_ | with_reducible refine' ppd_cons ?_ | with_reducible refine' key_s ?_ | with_reducible refine' key_i ?_ | with_reducible refine' ed_dget ?_ | ((with_reducible refine' dget_mk ?h1 ?h2 ?_); (case h1 => rfl); (case h2 => rfl)) | ((with_reducible refine' disp_same ?h1 ?h2 ?_); (case h1 => (refine Nat.le_of_ble_eq_true ?_; rfl)); (case h2 => rfl)) | ((with_reducible refine' disp_mk ?h1 ?h2 ?_); (case h1 => (refine Nat.le_of_ble_eq_true ?_; rfl)); (case h2 => rfl)) | with_reducible refine' ex_lst ?_ | with_reducible refine' ex_tup ?_ | with_reducible refine' ex_str ?_ | with_reducible refine' ed_join2 ?_ | ((with_reducible refine' join_mk ?h1 ?h2 ?h3 ?_); (case h1 => rfl); (case h2 => (refine Nat.le_of_ble_eq_true ?_; rfl)); (case h3 => rfl)) | with_reducible refine' ed_lcW ?_ | ((with_reducible refine' wipe_mk ?h ?_); (case h => walk_at "wp")) | with_reducible refine' sd_forA ?_ | with_reducible refine' sd_asgA ?_ | with_reducible refine' wd_strU ?_ | with_reducible refine' wd_rangeL ?_ | ((with_reducible refine' rng_mk (items := [.int 0, .int 1]) ?h1 ?h2 ?_); (case h1 => decide); (case h2 => rfl)) | ((with_reducible refine' rng_mk (items := [.int 0, .int 1, .int 2]) ?h1 ?h2 ?_); (case h1 => decide); (case h2 => rfl)) | ((with_reducible refine' rng_mk (items := [.int 0, .int 1, .int 2, .int 3]) ?h1 ?h2 ?_); (case h1 => decide); (case h2 => rfl)) | ((with_reducible refine' rng_mk (items := [.int 0, .int 1, .int 2, .int 3, .int 4]) ?h1 ?h2 ?_); (case h1 => decide); (case h2 => rfl)) | ((with_reducible refine' rng_mk (items := [.int 0, .int 1, .int 2, .int 3, .int 4, .int 5]) ?h1 ?h2 ?_); (case h1 => decide); (case h2 => rfl)) | with_reducible refine' wd_list ?_ | with_reducible refine' wd_tup ?_ | with_reducible refine' lcW_nil ?_ | with_reducible refine' lcW_consY ?_ | with_reducible refine' lcW_cons ?_ | with_reducible refine' forU_nil ?_ | with_reducible refine' forU_cons ?_
  | with_reducible refine' sd_parN ?_ | with_reducible refine' sd_par3N ?_ | with_reducible refine' par2_mk ?_ | with_reducible refine' par3_mk ?_
  | ((with_reducible refine' gd_nameN ?h ?_); (case h => decide)) | with_reducible refine' gds_cons ?_ | with_reducible refine' gds_nil ?_ | ((with_reducible refine' gd_tup ?h ?_); (case h => rfl)) | ((with_reducible refine' gd_unlU ?h ?_); (case h => rfl))
  | ((with_reducible refine' sz_ok ?h ?_); (case h => (refine Nat.le_of_ble_eq_true ?_; rfl))) | fail)
local macro_rules | `(tactic| walk_at "d") => `(tactic| repeat walk_at "d1")
local macro_rules | `(tactic| walk_at "ds") => `(tactic| repeat' (first | walk_at "d1" | with_reducible refine' dite2 (fun _ => ?_) (fun _ => ?_)))
local macro_rules | `(tactic| walk_at "dm") => `(tactic| repeat' (first | with_reducible refine' sd_retL ?_ | walk_at "d1" | with_reducible refine' om_mul (cm_r ?_ ?_) (fun _ _ => ?_) | with_reducible refine' om_any ?_ (fun _ _ _ => ?_) | with_reducible refine' of_div ?_ ?_ ?_ | ((with_reducible refine' op_lit ?h ?_); (case h => decide)) | ((with_reducible refine' sd_push ?h ?_); (case h => rfl)) | with_reducible refine' andN ?_ ?_ | with_reducible refine' dite2 (fun _ => ?_) (fun _ => ?_) | omega))
local macro_rules | `(tactic| walk_at "st") => `(tactic| simp only [startD, List.map_cons, List.map_nil, List.length_cons, List.length_nil, List.cons_append, List.nil_append, Nat.reduceAdd, Nat.reduceSub, List.replicate])

section
variable {c : Cn} {n : Nat} {ds : List Dv} {R : Nat → Dv → Prop}
theorem w__law_draw (hC : C__law_draw n ds R) : SD c (t__law_draw c.K) n (startD 5 ds) { nx := fun n _ => R n .non, rt := R } := by
  obtain ⟨b, rfl, b0, b1, hn, hR⟩ := hC
  unfold t__law_draw
  walk_at "st"
  refine sd_seq (sd_bump rfl (by decide +kernel) (by omega) ?_)
  refine sd_seq (sd_parN (ad_cons (ed_draws rfl (by decide +kernel) fun k k0 k1 => ad_cons (ed_mixed rfl (by decide +kernel) fun m m0 m1 => ad_nil (par2_mk ?_)))))
  have k2 : k < 1099511627776 := by unfold lim at k1; omega
  walk_at "d1"
  walk_at "d1"
  refine sd_seq (sd_cellsN _ (.inl rfl) rfl (fun z => ?_) ?_)
  all_goals walk_at "dm"
  all_goals first | exact ⟨n - 2, by omega, hR _ (by assumption) (by assumption)⟩

theorem w__law_pick (hC : C__law_pick n ds R) : SD c (t__law_pick c.K) n (startD 2 ds) { nx := fun n _ => R n .non, rt := R } := by
  obtain ⟨xs, rfl, h0, h1, hn, hR⟩ := hC
  unfold t__law_pick
  walk_at "st"
  walk_at "d"
  refine cd_len rfl ?_
  walk_at "d"
  have hl : 0 < xs.length := List.length_pos_iff.mpr h0
  refine ⟨_, rfl, by omega, by omega, hn, fun j j0 j1 => ?_⟩
  have hj : j.toNat < xs.length := by omega
  refine od_ixl (d := xs[j.toNat]) ?_ (hR _ (List.getElem_mem hj))
  exact at_nat j0 hj
theorem w__law_deck (hC : C__law_deck n ds R) : SD c (t__law_deck c.K) n (startD 4 ds) { nx := fun n _ => R n .non, rt := R } := by
  obtain ⟨ns, rfl, hR⟩ := hC
  unfold t__law_deck
  walk_at "st"
  walk_at "dm"
  refine forU_inv (fun n' e => n' = n ∧ ∃ m z, 0 ≤ m ∧ m < 2147483648 ∧ e = [some (.fz (.scr ns)), some (.fz (.lst (List.map Dv.int ((ns.drop (HT.sIx ns.length 0 none)).take (HT.sIx ns.length ns.length (some 63) - HT.sIx ns.length 0 none))))), some (.fz (.int m)), z]) ⟨rfl, _, _, by omega, by omega, rfl⟩ ?_ ?_
  · rintro d hd n' e ⟨rfl, m, z, m0, m1, rfl⟩
    obtain ⟨i, _, rfl⟩ := List.mem_map.mp hd
    walk_at "dm"
    exact ⟨rfl, _, _, by assumption, by omega, rfl⟩
  · rintro n' e ⟨rfl, m, z, m0, m1, rfl⟩
    walk_at "d"
    have e : ∀ A : Dv, mergeD [] [(Sum.inr (Str.ofString "cells"), A), (Sum.inr (Str.ofString "blend"), Dv.int m), (Sum.inr (Str.ofString "draws"), Dv.int 0)] = [(Sum.inr (Str.ofString "cells"), A), (Sum.inr (Str.ofString "blend"), Dv.int m), (Sum.inr (Str.ofString "draws"), Dv.int 0)] := fun A => rfl
    rw [← List.map_reverse]
    refine hR _ _ ?_ m0 m1
    rw [List.length_reverse, List.length_take]
    have : HT.sIx ns.length ns.length (some 63) ≤ 63 := by unfold HT.sIx; simp; omega
    omega
theorem w_is_whole (hC : C_is_whole n ds R) : SD c (t_is_whole c.K) n (startD 1 ds) { nx := fun n _ => R n .non, rt := R } := by
  obtain ⟨d, rfl, hd, hR⟩ := hC
  unfold t_is_whole
  walk_at "st"
  cases d <;> first | (walk_at "d"; exact hR) | (simp [okD] at hd; done)
theorem od_we {t : Tn} {R : Dv → Prop} (k : R (.bl t.e)) : OD c (rInU c.K false) (.str "e") (.str (tx t)) R := od_is (by decide +kernel) (by rw [hs_e]; exact k)
theorem od_wp {t : Tn} {R : Dv → Prop} (k : R (.bl t.p)) : OD c (rInU c.K false) (.str "p") (.str (tx t)) R := od_is (by decide +kernel) (by rw [hs_p]; exact k)
theorem od_ws {t : Tn} {R : Dv → Prop} (k : R (.bl t.s)) : OD c (rInU c.K false) (.str "s") (.str (tx t)) R := od_is (by decide +kernel) (by rw [hs_s]; exact k)
theorem od_ww {t : Tn} {R : Dv → Prop} (k : R (.bl t.w)) : OD c (rInU c.K false) (.str "w") (.str (tx t)) R := od_is (by decide +kernel) (by rw [hs_w]; exact k)
theorem od_nw {t : Tn} {R : Dv → Prop} (k : R (.bl (!t.w))) : OD c (rInU c.K true) (.str "w") (.str (tx t)) R := od_nis (by decide +kernel) (by rw [hs_w]; exact k)
local macro_rules | `(tactic| walk_at "k") => `(tactic| repeat' (first | with_reducible refine' od_we ?_ | with_reducible refine' od_wp ?_ | with_reducible refine' od_ws ?_ | with_reducible refine' od_ww ?_ | with_reducible refine' od_nw ?_ | walk_at "d1" | with_reducible refine' dite2 (fun _ => ?_) (fun _ => ?_)))
theorem signs4 : signs "epsw" = [.str "e", .str "p", .str "s", .str "w"] := rfl
theorem lc4 {g : TG} {vs : List Nat} {tt : TT} {te : TE} {env : DL.Env} {K : Nat → List Dv → Prop} (h : LcW c g vs tt te env [.str "e", .str "p", .str "s", .str "w"] n K) : (signs "epsw").length ≤ sizeLine ∧ LcW c g vs tt te env (signs "epsw") n K := ⟨by rw [signs4]; decide, by rw [signs4]; exact h⟩
local macro_rules | `(tactic| walk_at "k") => `(tactic| repeat' (first | with_reducible refine' lc4 ?_ | with_reducible refine' od_we ?_ | with_reducible refine' od_wp ?_ | with_reducible refine' od_ws ?_ | with_reducible refine' od_ww ?_ | with_reducible refine' od_nw ?_ | walk_at "d1" | with_reducible refine' dite2 (fun _ => ?_) (fun _ => ?_)))
theorem w_turn_behind (hC : C_turn_behind n ds R) : SD c (t_turn_behind c.K) n (startD 6 ds) { nx := fun n _ => R n .non, rt := R } := by
  obtain ⟨a, b, rfl, hR⟩ := hC
  unfold t_turn_behind
  walk_at "st"
  obtain ⟨e2, p2, s2, w2⟩ := b
  cases w2
  all_goals walk_at "k"
  all_goals (simp only [behT, if_true, if_false, Bool.false_eq_true, *] at hR; exact hR)
theorem w_behind (hC : C_behind n ds R) : SD c (t_behind c.K) n (startD 5 ds) { nx := fun n _ => R n .non, rt := R } := by
  obtain ⟨a, b, rfl, hR⟩ := hC
  unfold t_behind mo
  walk_at "st"
  walk_at "k"
  all_goals (refine ⟨a.t, b.t, rfl, ?_⟩; walk_at "k"; simpa [mo, beh, sg, *] using hR)
theorem w_back_of (hC : C_back_of n ds R) : SD c (t_back_of c.K) n (startD 6 ds) { nx := fun n _ => R n .non, rt := R } := by
  obtain ⟨⟨⟨e, p, s, w⟩, d, a⟩, rfl, hR⟩ := hC
  unfold t_back_of mo
  walk_at "st"
  cases e <;> cases p <;> cases s <;> cases w <;> walk_at "k" <;> first | exact hR | simpa [mo, back, sg] using hR
theorem kd1 {b : Bool} {R : Dv → Prop} (k : R (.bl b)) : OD c (rEqW c.K false) (.str (kd b)) (.str "end") R := ow_s (by rw [kd_end]; exact k)
theorem kd2 {R : Dv → Prop} (k : R (.bl false)) : OD c (rEqW c.K false) (.str "pick") (.str "end") R := ow_s k
theorem kd3 {R : Dv → Prop} (k : R (.bl true)) : OD c (rEqW c.K false) (.str "end") (.str "end") R := ow_s k
local macro_rules | `(tactic| walk_at "k2") => `(tactic| repeat' (first | with_reducible refine' kd1 ?_ | with_reducible refine' kd2 ?_ | with_reducible refine' kd3 ?_ | with_reducible refine' lc4 ?_ | with_reducible refine' od_we ?_ | with_reducible refine' od_wp ?_ | with_reducible refine' od_ws ?_ | with_reducible refine' od_ww ?_ | with_reducible refine' od_nw ?_ | walk_at "d1" | with_reducible refine' dite2 (fun _ => ?_) (fun _ => ?_)))
theorem w__law_led (hC : C__law_led n ds R) : SD c (t__law_led c.K) n (startD 4 ds) { nx := fun n _ => R n .non, rt := R } := by
  obtain ⟨⟨⟨e, p, s, w⟩, d, a⟩, ⟨k, i⟩, rfl, hR⟩ := hC
  unfold t__law_led mo spot
  walk_at "st"
  cases k <;> cases w <;> cases e <;> cases p <;> walk_at "k2" <;> simpa [spot, led, sg, kd] using hR
local macro_rules | `(tactic| walk_at "k3") => `(tactic| repeat' (first | with_reducible refine' lcW_nil ?_ | with_reducible refine' lcW_consY ?_ | with_reducible refine' lcW_consM ?_ ?_ | with_reducible refine' same1 ?_ | with_reducible exact ⟨rfl, rfl⟩ | with_reducible refine' lc4 ?_ | with_reducible refine' od_we ?_ | with_reducible refine' od_wp ?_ | with_reducible refine' od_ws ?_ | with_reducible refine' od_ww ?_ | with_reducible refine' od_nw ?_ | walk_at "d1" | fail))
def tkS (b : Bool) (x : Str) : List Str := if b = true then [x] else []
def ys4 (b1 b2 b3 b4 : Bool) : List Str := tkS b1 "e" ++ (tkS b2 "p" ++ (tkS b3 "s" ++ tkS b4 "w"))
theorem tk4 {b1 b2 b3 b4 : Bool} {A : Str → Prop} (k : A (tx ⟨b1, b2, b3, b4⟩)) : ∃ ys z, seqD (.lst (tk b1 (.str "e") ++ (tk b2 (.str "p") ++ (tk b3 (.str "s") ++ (tk b4 (.str "w") ++ []))))) = some (ys.map Dv.str) ∧ (ys.map (·.length)).sum + ys.length * (Str.ofString "").length ≤ 16777216 ∧ Txt.join "" ys = z ∧ A z := by
  refine ⟨ys4 b1 b2 b3 b4, tx ⟨b1, b2, b3, b4⟩, ?_, ?_, ?_, k⟩
  · cases b1 <;> cases b2 <;> cases b3 <;> cases b4 <;> rfl
  · cases b1 <;> cases b2 <;> cases b3 <;> cases b4 <;> exact Nat.le_of_ble_eq_true rfl
  · cases b1 <;> cases b2 <;> cases b3 <;> cases b4 <;> rfl
end
end K59

set_option Elab.async false
set_option linter.all false
set_option maxRecDepth 100000
set_option maxHeartbeats 2000000
namespace K59
open PySem PySem.Spec L2 DL
local macro_rules | `(tactic| walk_at "se") => `(tactic| first | with_reducible exact se_0 | ((with_reducible refine' se_s ?h); (case h => walk_at "se")))
local macro_rules | `(tactic| walk_at "wp") => `(tactic| first | with_reducible exact wipe_nil | ((with_reducible refine' wipe_cons ?h1 ?h2); (case h1 => walk_at "wp"); (case h2 => walk_at "se")))
local macro_rules | `(tactic| walk_at "d1") => `(tactic| first
  | ((with_reducible refine' ed_var ?h ?_); (case h => rfl)) | with_reducible refine' ed_op ?_ | with_reducible refine' ed_int ?_ | with_reducible refine' ed_str ?_
  | with_reducible refine' sd_seq ?_ | with_reducible refine' sd_if ?_ | with_reducible refine' sd_asgN ?_ | ((with_reducible refine' env_mk ?h ?_); (case h => walk_at "se")) | with_reducible refine' sd_ret ?_ | with_reducible refine' sd_next ?_ | with_reducible refine' sd_retN ?_
  | with_reducible refine' td_tst ?_ | with_reducible refine' td_b ?_ | with_reducible refine' td_tru ?_ | with_reducible refine' tru_b ?_ | with_reducible refine' tru_i ?_ | with_reducible refine' tru_l ?_ | with_reducible refine' tru_t ?_ | with_reducible refine' tru_n ?_ | with_reducible refine' td_not ?_ | with_reducible refine' td_and ?_ | with_reducible refine' td_or ?_ | with_reducible refine' td_yes ?_
  | with_reducible refine' isBl_mk ?_
  | with_reducible refine' ed_bl ?_ | with_reducible refine' ed_non ?_
  | with_reducible refine' ed_un ?_ | with_reducible refine' ed_if ?_ | with_reducible refine' ed_and ?_ | with_reducible refine' ed_or ?_ | with_reducible refine' ed_not ?_
  | with_reducible refine' ed_tup ?_ | with_reducible refine' ed_lst ?_ | with_reducible refine' ad_cons ?_ | with_reducible refine' ad_nil ?_ | ((with_reducible refine' ed_is2 ?h ?_); (case h => decide)) | ((with_reducible refine' is_mk (b := true) ?h ?_); (case h => rfl)) | ((with_reducible refine' is_mk (b := false) ?h ?_); (case h => rfl)) | with_reducible refine' ite_t ?_ | with_reducible refine' ite_f ?_ | with_reducible refine' ite_nt ?_ | with_reducible refine' ite_nf ?_ | with_reducible refine' ed_callB ?_ | with_reducible refine' ed_call ?_
  | with_reducible refine' oa_i ?_ | with_reducible refine' os_i ?_ | with_reducible refine' ud_neg ?_ | with_reducible refine' od_cmp ?_ | with_reducible refine' cd_int ?_
  | ((with_reducible refine' od_is ?h ?_); (case h => decide +kernel)) | ((with_reducible refine' od_nis ?h ?_); (case h => decide +kernel))
  | with_reducible refine' ow_s ?_ | with_reducible refine' ow_i ?_ | with_reducible refine' ow_b ?_ | with_reducible refine' ow_e ?_ | with_reducible refine' ow_z ?_ | with_reducible refine' nv_s ?_ | with_reducible refine' nv_i ?_ | with_reducible refine' nv_bb ?_
  | ((with_reducible refine' od_ixt ?h ?_); (case h => rfl)) | ((with_reducible refine' od_ixl ?h ?_); (case h => rfl)) | ((with_reducible refine' ix_s ?h1 ?h2 ?_); (case h1 => (refine Nat.le_of_ble_eq_true ?_; rfl)); (case h2 => rfl))
  | with_reducible refine' ed_sl ?_ | with_reducible refine' pd_none ?_ | with_reducible refine' pd_some ?_ | with_reducible refine' pd_int ?_ | with_reducible refine' sl_scr ?_ | with_reducible refine' sl_lst ?_ | with_reducible refine' sl_tup ?_ | with_reducible refine' sl_str ?_ ?_
  | with_reducible refine' ed_revA ?_ | with_reducible refine' rv_lst ?_ | with_reducible refine' rv_tup ?_ | with_reducible refine' cd_listL ?_ | with_reducible refine' cd_listT ?_ | with_reducible refine' cd_sum ?_ | with_reducible refine' cd_all ?_
  | with_reducible refine' ed_disp2 ?_ | with_reducible refine' ppd_nil ?_ | with_reducible refine' ppd_cons ?_ | with_reducible refine' key_s ?_ | with_reducible refine' key_i ?_ | with_reducible refine' ed_dget ?_ | ((with_reducible refine' dget_mk ?h1 ?h2 ?_); (case h1 => rfl); (case h2 => rfl)) | ((with_reducible refine' disp_same ?h1 ?h2 ?_); (case h1 => (refine Nat.le_of_ble_eq_true ?_; rfl)); (case h2 => rfl)) | ((with_reducible refine' disp_mk ?h1 ?h2 ?_); (case h1 => (refine Nat.le_of_ble_eq_true ?_; rfl)); (case h2 => rfl)) | with_reducible refine' ex_lst ?_ | with_reducible refine' ex_tup ?_ | with_reducible refine' ex_str ?_ | with_reducible refine' ed_join2 ?_ | ((with_reducible refine' join_mk ?h1 ?h2 ?h3 ?_); (case h1 => rfl); (case h2 => (refine Nat.le_of_ble_eq_true ?_; rfl)); (case h3 => rfl)) | with_reducible refine' ed_lcW ?_ | ((with_reducible refine' wipe_mk ?h ?_); (case h => walk_at "wp")) | with_reducible refine' sd_forA ?_ | with_reducible refine' sd_asgA ?_ | with_reducible refine' wd_strU ?_ | with_reducible refine' wd_rangeL ?_ | ((with_reducible refine' rng_mk (items := [.int 0, .int 1]) ?h1 ?h2 ?_); (case h1 => decide); (case h2 => rfl)) | ((with_reducible refine' rng_mk (items := [.int 0, .int 1, .int 2]) ?h1 ?h2 ?_); (case h1 => decide); (case h2 => rfl)) | ((with_reducible refine' rng_mk (items := [.int 0, .int 1, .int 2, .int 3]) ?h1 ?h2 ?_); (case h1 => decide); (case h2 => rfl)) | ((with_reducible refine' rng_mk (items := [.int 0, .int 1, .int 2, .int 3, .int 4]) ?h1 ?h2 ?_); (case h1 => decide); (case h2 => rfl)) | ((with_reducible refine' rng_mk (items := [.int 0, .int 1, .int 2, .int 3, .int 4, .int 5]) ?h1 ?h2 ?_); (case h1 => decide); (case h2 => rfl)) | with_reducible refine' wd_list ?_ | with_reducible refine' wd_tup ?_ | with_reducible refine' lcW_nil ?_ | with_reducible refine' lcW_consY ?_ | with_reducible refine' lcW_cons ?_ | with_reducible refine' forU_nil ?_ | with_reducible refine' forU_cons ?_
  | with_reducible refine' sd_parN ?_ | with_reducible refine' sd_par3N ?_ | with_reducible refine' par2_mk ?_ | with_reducible refine' par3_mk ?_
  | ((with_reducible refine' gd_nameN ?h ?_); (case h => decide)) | with_reducible refine' gds_cons ?_ | with_reducible refine' gds_nil ?_ | ((with_reducible refine' gd_tup ?h ?_); (case h => rfl)) | ((with_reducible refine' gd_unlU ?h ?_); (case h => rfl))
  | ((with_reducible refine' sz_ok ?h ?_); (case h => (refine Nat.le_of_ble_eq_true ?_; rfl))) | fail)
local macro_rules | `(tactic| walk_at "d") => `(tactic| repeat walk_at "d1")
local macro_rules | `(tactic| walk_at "ds") => `(tactic| repeat' (first | walk_at "d1" | with_reducible refine' dite2 (fun _ => ?_) (fun _ => ?_)))
local macro_rules | `(tactic| walk_at "dm") => `(tactic| repeat' (first | with_reducible refine' sd_retL ?_ | walk_at "d1" | with_reducible refine' om_mul (cm_r ?_ ?_) (fun _ _ => ?_) | with_reducible refine' om_any ?_ (fun _ _ _ => ?_) | with_reducible refine' of_div ?_ ?_ ?_ | ((with_reducible refine' op_lit ?h ?_); (case h => decide)) | ((with_reducible refine' sd_push ?h ?_); (case h => rfl)) | with_reducible refine' andN ?_ ?_ | with_reducible refine' dite2 (fun _ => ?_) (fun _ => ?_) | omega))
local macro_rules | `(tactic| walk_at "st") => `(tactic| simp only [startD, List.map_cons, List.map_nil, List.length_cons, List.length_nil, List.cons_append, List.nil_append, Nat.reduceAdd, Nat.reduceSub, List.replicate])

local macro_rules | `(tactic| walk_at "k") => `(tactic| repeat' (first | with_reducible refine' lc4 ?_ | with_reducible refine' od_we ?_ | with_reducible refine' od_wp ?_ | with_reducible refine' od_ws ?_ | with_reducible refine' od_ww ?_ | with_reducible refine' od_nw ?_ | walk_at "d1" | with_reducible refine' dite2 (fun _ => ?_) (fun _ => ?_)))
local macro_rules | `(tactic| walk_at "k2") => `(tactic| repeat' (first | with_reducible refine' kd1 ?_ | with_reducible refine' kd2 ?_ | with_reducible refine' kd3 ?_ | with_reducible refine' lc4 ?_ | with_reducible refine' od_we ?_ | with_reducible refine' od_wp ?_ | with_reducible refine' od_ws ?_ | with_reducible refine' od_ww ?_ | with_reducible refine' od_nw ?_ | walk_at "d1" | with_reducible refine' dite2 (fun _ => ?_) (fun _ => ?_)))
local macro_rules | `(tactic| walk_at "k3") => `(tactic| repeat' (first | with_reducible refine' lcW_nil ?_ | with_reducible refine' lcW_consY ?_ | with_reducible refine' lcW_consM ?_ ?_ | with_reducible refine' same1 ?_ | with_reducible exact ⟨rfl, rfl⟩ | with_reducible refine' lc4 ?_ | with_reducible refine' od_we ?_ | with_reducible refine' od_wp ?_ | with_reducible refine' od_ws ?_ | with_reducible refine' od_ww ?_ | with_reducible refine' od_nw ?_ | walk_at "d1" | fail))
section
variable {c : Cn} {n : Nat} {ds : List Dv} {R : Nat → Dv → Prop}
theorem w__law_turns (hC : C__law_turns n ds R) : SD c (t__law_turns c.K) n (startD 3 ds) { nx := fun n _ => R n .non, rt := R } := by
  obtain ⟨rfl, hR⟩ := hC
  unfold t__law_turns
  walk_at "st"
  have step : ∀ (ss : List Str) (x : Str) (z : Option Dx) (N : DN), ss.length ≤ 16 → (∀ s ∈ ss, s.length ≤ 8) → x.length ≤ 1 → N.nx n [some (.fz (.lst ((ss ++ ss.map (· ++ x)).map Dv.str))), some (.fz (.str x)), none] →
      GD c (gName 1) (List.range 64) (.str x) [some (.fz (.lst (ss.map Dv.str))), z, none] fun env2 => SD c (tAsg (tOp (rAddV c.K) (tVar 0) (tLc (iList c.K (tVar 0)) (gName 2) tYes (tOp (rAddV c.K) (tVar 2) (tVar 1)) [2])) (gName 0)) n env2 N := by
    intro ss x z N hl hs hx k
    walk_at "d"
    refine ⟨by rw [List.length_map]; exact Nat.le_trans hl (by decide), lcW_map (fun _ => true) (fun d => match d with | .str s => .str (s ++ x) | _ => .non) (fun d hd => ?_) ?_⟩
    · obtain ⟨s, hss, rfl⟩ := List.mem_map.mp hd
      walk_at "d"
      refine ⟨rfl, rfl, fun _ => ?_⟩
      walk_at "d"
      refine oA (od_adds ?_ ⟨rfl, rfl⟩)
      have := hs s hss
      rw [sizeLine_eq]
      omega
    · have e : ((ss.map Dv.str).filter fun _ => true).map (fun d => match d with | .str s => Dv.str (s ++ x) | _ => Dv.non) = (ss.map (· ++ x)).map Dv.str := by
        rw [List.filter_eq_self.mpr (fun _ _ => rfl), List.map_map, List.map_map]
        rfl
      rw [e]
      refine oA (od_addl ?_ ?_)
      · simp only [List.length_map]
        rw [sizeLine_eq]
        omega
      · rw [← List.map_append]
        walk_at "d"
        exact k
  walk_at "d"
  rw [signs4]
  have l0 : ∀ s ∈ ([""] : List Str), s.length ≤ 8 := by decide +kernel
  refine forU_cons (step [""] "e" _ _ (by decide) (by decide +kernel) (by decide +kernel) ?_)
  refine forU_cons (step _ "p" _ _ (by decide) (by decide +kernel) (by decide +kernel) ?_)
  refine forU_cons (step _ "s" _ _ (by decide) (by decide +kernel) (by decide +kernel) ?_)
  refine forU_cons (step _ "w" _ _ (by decide) (by decide +kernel) (by decide +kernel) ?_)
  walk_at "d"
  refine cd_sortedS (by decide) fun ys hp _ => ?_
  refine hR ys (hp.trans ?_)
  decide +kernel
theorem w_is_turn (hC : C_is_turn n ds R) : SD c (t_is_turn c.K) n (startD 2 ds) { nx := fun n _ => R n .non, rt := R } := by
  obtain ⟨d, rfl, hd, hR⟩ := hC
  unfold t_is_turn
  walk_at "st"
  cases d with
  | str x =>
    obtain ⟨h1, h2⟩ := hd.strA
    walk_at "d"
    have hz : (signs x).length ≤ sizeLine := by unfold signs; rw [List.length_map, Array.length_toList, sizeLine_eq]; omega
    refine ⟨hz, lcW_map (fun _ => true) (fun d => match d with | .str s => .bl (hs s "epsw") | _ => .non) (fun d hd => ?_) ?_⟩
    · obtain ⟨k, _, rfl⟩ := List.mem_map.mp hd
      walk_at "d"
      refine ⟨rfl, rfl, fun _ => ?_⟩
      walk_at "d"
      exact od_in1 rfl ⟨rfl, rfl⟩
    · have e : ((signs x).filter fun _ => true).map (fun d => match d with | .str s => Dv.bl (hs s "epsw") | _ => Dv.non) = (x.cps.toList.map fun k => decide (k ∈ E4)).map Dv.bl := by
        rw [List.filter_eq_self.mpr (fun _ _ => rfl)]
        unfold signs
        rw [List.map_map, List.map_map]
        rfl
      rw [e]
      walk_at "d"
      have ea : (List.map (fun k => decide (k ∈ E4)) x.cps.toList).all id = x.cps.toList.all fun k => decide (k ∈ E4) := by rw [List.all_map]; rfl
      rw [ea]
      refine dite2 (fun q => ?_) (fun q => ?_)
      · walk_at "d"
        have : turnS x = false := by unfold turnS; simp only [Bool.not_eq_true'] at q; rw [q]; rfl
        simp only [turnD, this] at hR
        exact hR
      · walk_at "d"
        refine cd_listS (by rw [sizeLine_eq]; omega) ?_
        refine ed_sortSet ?_
        walk_at "d"
        refine ⟨h2, fun ys hp hs => ?_⟩
        have hm : ∀ y ∈ ys, y ∈ sgs x := fun y hy => by
          have := (hp.mem_iff.mp hy)
          rw [met_mem] at this
          simpa using this
        refine ow_t ⟨strs_plain _, strs_plain _, strs_shaped _ (sg1_ok h1), strs_shaped _ fun y hy => sg1_ok h1 y (hm y hy)⟩ ?_
        rw [eqv_strs, set_eq hp hs]
        have : turnS x = decide (x.cps.toList.Pairwise (· < ·)) := by unfold turnS; simp only [Bool.not_eq_false'] at q; rw [q]; rfl
        simp only [turnD, this] at hR
        exact hR
  | non => walk_at "d"; exact hR
  | bl b => walk_at "d"; exact hR
  | int i => walk_at "d"; exact hR
  | tup l => walk_at "d"; exact hR
  | lst l => walk_at "d"; exact hR
  | dic l => walk_at "d"; exact hR
  | ins _ _ => have := hd.ok; simp [okD] at this
  | deck _ => have := hd.ok; simp [okD] at this
  | scr _ => have := hd.ok; simp [okD] at this
end
end K59

set_option Elab.async false
set_option linter.all false
set_option maxRecDepth 100000
set_option maxHeartbeats 2000000
namespace K59
open PySem PySem.Spec L2 DL
local macro_rules | `(tactic| walk_at "se") => `(tactic| first | with_reducible exact se_0 | ((with_reducible refine' se_s ?h); (case h => walk_at "se")))
local macro_rules | `(tactic| walk_at "wp") => `(tactic| first | with_reducible exact wipe_nil | ((with_reducible refine' wipe_cons ?h1 ?h2); (case h1 => walk_at "wp"); (case h2 => walk_at "se")))
local macro_rules | `(tactic| walk_at "d1") => `(tactic| first
  | ((with_reducible refine' ed_var ?h ?_); (case h => rfl)) | with_reducible refine' ed_op ?_ | with_reducible refine' ed_int ?_ | with_reducible refine' ed_str ?_
  | with_reducible refine' sd_seq ?_ | with_reducible refine' sd_if ?_ | with_reducible refine' sd_asgN ?_ | ((with_reducible refine' env_mk ?h ?_); (case h => walk_at "se")) | with_reducible refine' sd_ret ?_ | with_reducible refine' sd_next ?_ | with_reducible refine' sd_retN ?_
  | with_reducible refine' td_tst ?_ | with_reducible refine' td_b ?_ | with_reducible refine' td_tru ?_ | with_reducible refine' tru_b ?_ | with_reducible refine' tru_i ?_ | with_reducible refine' tru_l ?_ | with_reducible refine' tru_t ?_ | with_reducible refine' tru_n ?_ | with_reducible refine' td_not ?_ | with_reducible refine' td_and ?_ | with_reducible refine' td_or ?_ | with_reducible refine' td_yes ?_
  | with_reducible refine' isBl_mk ?_
  | with_reducible refine' ed_bl ?_ | with_reducible refine' ed_non ?_
  | with_reducible refine' ed_un ?_ | with_reducible refine' ed_if ?_ | with_reducible refine' ed_and ?_ | with_reducible refine' ed_or ?_ | with_reducible refine' ed_not ?_
  | with_reducible refine' ed_tup ?_ | with_reducible refine' ed_lst ?_ | with_reducible refine' ad_cons ?_ | with_reducible refine' ad_nil ?_ | ((with_reducible refine' ed_is2 ?h ?_); (case h => decide)) | ((with_reducible refine' is_mk (b := true) ?h ?_); (case h => rfl)) | ((with_reducible refine' is_mk (b := false) ?h ?_); (case h => rfl)) | with_reducible refine' ite_t ?_ | with_reducible refine' ite_f ?_ | with_reducible refine' ite_nt ?_ | with_reducible refine' ite_nf ?_ | with_reducible refine' ed_callB ?_ | with_reducible refine' ed_call ?_
  | with_reducible refine' oa_i ?_ | with_reducible refine' os_i ?_ | with_reducible refine' ud_neg ?_ | with_reducible refine' od_cmp ?_ | with_reducible refine' cd_int ?_
  | ((with_reducible refine' od_is ?h ?_); (case h => decide +kernel)) | ((with_reducible refine' od_nis ?h ?_); (case h => decide +kernel))
  | with_reducible refine' ow_s ?_ | with_reducible refine' ow_i ?_ | with_reducible refine' ow_b ?_ | with_reducible refine' ow_e ?_ | with_reducible refine' ow_z ?_ | with_reducible refine' nv_s ?_ | with_reducible refine' nv_i ?_ | with_reducible refine' nv_bb ?_
  | ((with_reducible refine' od_ixt ?h ?_); (case h => rfl)) | ((with_reducible refine' od_ixl ?h ?_); (case h => rfl)) | ((with_reducible refine' ix_s ?h1 ?h2 ?_); (case h1 => (refine Nat.le_of_ble_eq_true ?_; rfl)); (case h2 => rfl))
  | with_reducible refine' ed_sl ?_ | with_reducible refine' pd_none ?_ | with_reducible refine' pd_some ?_ | with_reducible refine' pd_int ?_ | with_reducible refine' sl_scr ?_ | with_reducible refine' sl_lst ?_ | with_reducible refine' sl_tup ?_ | with_reducible refine' sl_str ?_ ?_
  | with_reducible refine' ed_revA ?_ | with_reducible refine' rv_lst ?_ | with_reducible refine' rv_tup ?_ | with_reducible refine' cd_listL ?_ | with_reducible refine' cd_listT ?_ | with_reducible refine' cd_sum ?_ | with_reducible refine' cd_all ?_
  | with_reducible refine' ed_disp2 ?_ | with_reducible refine' ppd_nil ?_ | with_reducible refine' ppd_cons ?_ | with_reducible refine' key_s ?_ | with_reducible refine' key_i ?_ | with_reducible refine' ed_dget ?_ | ((with_reducible refine' dget_mk ?h1 ?h2 ?_); (case h1 => rfl); (case h2 => rfl)) | ((with_reducible refine' disp_same ?h1 ?h2 ?_); (case h1 => (refine Nat.le_of_ble_eq_true ?_; rfl)); (case h2 => rfl)) | ((with_reducible refine' disp_mk ?h1 ?h2 ?_); (case h1 => (refine Nat.le_of_ble_eq_true ?_; rfl)); (case h2 => rfl)) | with_reducible refine' ex_lst ?_ | with_reducible refine' ex_tup ?_ | with_reducible refine' ex_str ?_ | with_reducible refine' ed_join2 ?_ | ((with_reducible refine' join_mk ?h1 ?h2 ?h3 ?_); (case h1 => rfl); (case h2 => (refine Nat.le_of_ble_eq_true ?_; rfl)); (case h3 => rfl)) | with_reducible refine' ed_lcW ?_ | ((with_reducible refine' wipe_mk ?h ?_); (case h => walk_at "wp")) | with_reducible refine' sd_forA ?_ | with_reducible refine' sd_asgA ?_ | with_reducible refine' wd_strU ?_ | with_reducible refine' wd_rangeL ?_ | ((with_reducible refine' rng_mk (items := [.int 0, .int 1]) ?h1 ?h2 ?_); (case h1 => decide); (case h2 => rfl)) | ((with_reducible refine' rng_mk (items := [.int 0, .int 1, .int 2]) ?h1 ?h2 ?_); (case h1 => decide); (case h2 => rfl)) | ((with_reducible refine' rng_mk (items := [.int 0, .int 1, .int 2, .int 3]) ?h1 ?h2 ?_); (case h1 => decide); (case h2 => rfl)) | ((with_reducible refine' rng_mk (items := [.int 0, .int 1, .int 2, .int 3, .int 4]) ?h1 ?h2 ?_); (case h1 => decide); (case h2 => rfl)) | ((with_reducible refine' rng_mk (items := [.int 0, .int 1, .int 2, .int 3, .int 4, .int 5]) ?h1 ?h2 ?_); (case h1 => decide); (case h2 => rfl)) | with_reducible refine' wd_list ?_ | with_reducible refine' wd_tup ?_ | with_reducible refine' lcW_nil ?_ | with_reducible refine' lcW_consY ?_ | with_reducible refine' lcW_cons ?_ | with_reducible refine' forU_nil ?_ | with_reducible refine' forU_cons ?_
  | with_reducible refine' sd_parN ?_ | with_reducible refine' sd_par3N ?_ | with_reducible refine' par2_mk ?_ | with_reducible refine' par3_mk ?_
  | ((with_reducible refine' gd_nameN ?h ?_); (case h => decide)) | with_reducible refine' gds_cons ?_ | with_reducible refine' gds_nil ?_ | ((with_reducible refine' gd_tup ?h ?_); (case h => rfl)) | ((with_reducible refine' gd_unlU ?h ?_); (case h => rfl))
  | ((with_reducible refine' sz_ok ?h ?_); (case h => (refine Nat.le_of_ble_eq_true ?_; rfl))) | fail)
local macro_rules | `(tactic| walk_at "d") => `(tactic| repeat walk_at "d1")
local macro_rules | `(tactic| walk_at "ds") => `(tactic| repeat' (first | walk_at "d1" | with_reducible refine' dite2 (fun _ => ?_) (fun _ => ?_)))
local macro_rules | `(tactic| walk_at "dm") => `(tactic| repeat' (first | with_reducible refine' sd_retL ?_ | walk_at "d1" | with_reducible refine' om_mul (cm_r ?_ ?_) (fun _ _ => ?_) | with_reducible refine' om_any ?_ (fun _ _ _ => ?_) | with_reducible refine' of_div ?_ ?_ ?_ | ((with_reducible refine' op_lit ?h ?_); (case h => decide)) | ((with_reducible refine' sd_push ?h ?_); (case h => rfl)) | with_reducible refine' andN ?_ ?_ | with_reducible refine' dite2 (fun _ => ?_) (fun _ => ?_) | omega))
local macro_rules | `(tactic| walk_at "st") => `(tactic| simp only [startD, List.map_cons, List.map_nil, List.length_cons, List.length_nil, List.cons_append, List.nil_append, Nat.reduceAdd, Nat.reduceSub, List.replicate])

local macro_rules | `(tactic| walk_at "k") => `(tactic| repeat' (first | with_reducible refine' lc4 ?_ | with_reducible refine' od_we ?_ | with_reducible refine' od_wp ?_ | with_reducible refine' od_ws ?_ | with_reducible refine' od_ww ?_ | with_reducible refine' od_nw ?_ | walk_at "d1" | with_reducible refine' dite2 (fun _ => ?_) (fun _ => ?_)))
local macro_rules | `(tactic| walk_at "k2") => `(tactic| repeat' (first | with_reducible refine' kd1 ?_ | with_reducible refine' kd2 ?_ | with_reducible refine' kd3 ?_ | with_reducible refine' lc4 ?_ | with_reducible refine' od_we ?_ | with_reducible refine' od_wp ?_ | with_reducible refine' od_ws ?_ | with_reducible refine' od_ww ?_ | with_reducible refine' od_nw ?_ | walk_at "d1" | with_reducible refine' dite2 (fun _ => ?_) (fun _ => ?_)))
local macro_rules | `(tactic| walk_at "k3") => `(tactic| repeat' (first | with_reducible refine' lcW_nil ?_ | with_reducible refine' lcW_consY ?_ | with_reducible refine' lcW_consM ?_ ?_ | with_reducible refine' same1 ?_ | with_reducible exact ⟨rfl, rfl⟩ | with_reducible refine' lc4 ?_ | with_reducible refine' od_we ?_ | with_reducible refine' od_wp ?_ | with_reducible refine' od_ws ?_ | with_reducible refine' od_ww ?_ | with_reducible refine' od_nw ?_ | walk_at "d1" | fail))
section
variable {c : Cn} {n : Nat} {ds : List Dv} {R : Nat → Dv → Prop}
theorem w__law_behind (hC : C__law_behind n ds R) : SD c (t__law_behind c.K) n (startD 14 ds) { nx := fun n _ => R n .non, rt := R } := by
  obtain ⟨⟨⟨e1, p1, s1, w1⟩, d1, a1⟩, ⟨⟨e2, p2, s2, w2⟩, d2, a2⟩, rfl, hR⟩ := hC
  unfold t__law_behind mo
  walk_at "st"
  cases w2 <;> cases p2 <;> cases e2
  all_goals (walk_at "k3"; refine tk4 ?_; walk_at "k3"; simpa [mo, beh, behT, sg] using hR)
theorem bad_len {k : Nat} (h : k ≠ 3) : (!decide ((k : Int) = 3)) = true := by
  have : ¬ ((k : Int) = 3) := by omega
  simp [this]
theorem w_is_motion (hC : C_is_motion n ds R) : SD c (t_is_motion c.K) n (startD 1 ds) { nx := fun n _ => R n .non, rt := R } := by
  obtain ⟨d, rfl, hd, hR⟩ := hC
  unfold t_is_motion
  walk_at "st"
  cases d with
  | tup l =>
    walk_at "d"
    refine cd_len rfl ?_
    walk_at "d"
    by_cases hl : l.length = 3
    · match l, hl with
      | [x, y, z], _ =>
        refine iteF ?_
        walk_at "d"
        refine ⟨x, rfl, hd.item (by simp), ?_⟩
        walk_at "d"
        refine dite2 (fun q => ?_) (fun q => ?_)
        · walk_at "d"
          refine ⟨y, rfl, (hd.item (d := y) (by simp)).ok, ?_⟩
          walk_at "d"
          refine dite2 (fun q2 => ?_) (fun q2 => ?_)
          · walk_at "d"
            refine ⟨z, rfl, (hd.item (d := z) (by simp)).ok, ?_⟩
            simpa [motD, q, q2] using hR
          · simpa [motD, q, q2] using hR
        · simpa [motD, q] using hR
    · rw [bad_len hl]
      refine iteT ?_
      walk_at "d"
      have : motD (.tup l) = false := by
        unfold motD
        split
        · rename_i e
          cases e
          exact absurd rfl hl
        · rfl
      rwa [this] at hR
  | non => walk_at "d"; exact hR
  | bl b => walk_at "d"; exact hR
  | int i => walk_at "d"; exact hR
  | str l => walk_at "d"; exact hR
  | lst l => walk_at "d"; exact hR
  | dic l => walk_at "d"; exact hR
  | ins _ _ => have := hd.ok; simp [okD] at this
  | deck _ => have := hd.ok; simp [okD] at this
  | scr _ => have := hd.ok; simp [okD] at this
theorem td_whole {i : Nat} {env : DL.Env} {d : Dv} {R : Nat → Bool → Prop} (he : env[i]? = some (some (.fz d))) (ho : okD d = true) (k : R n (!wholeD d)) : TD c (tOr (tNot (tB (tCB (rIsi c.K) (tCons (tVar i) (tCons (tC (.ty "int")) tNil))))) (tB (tCB (rIsi c.K) (tCons (tVar i) (tCons (tC (.ty "bool")) tNil))))) n env R := by
  cases d with
  | ins _ _ => simp [okD] at ho
  | deck _ => simp [okD] at ho
  | scr _ => simp [okD] at ho
  | bl b =>
    refine td_or (td_not (td_b (ed_is2 (by decide) (ed_var he (is_mk (b := true) rfl (isBl_mk ?_))))))
    refine ite_nt (td_b (ed_is2 (by decide) (ed_var he (is_mk (b := true) rfl (isBl_mk k)))))
  | int b =>
    refine td_or (td_not (td_b (ed_is2 (by decide) (ed_var he (is_mk (b := true) rfl (isBl_mk ?_))))))
    refine ite_nt (td_b (ed_is2 (by decide) (ed_var he (is_mk (b := false) rfl (isBl_mk k)))))
  | _ =>
    refine td_or (td_not (td_b (ed_is2 (by decide) (ed_var he (is_mk (b := false) rfl (isBl_mk ?_))))))
    exact ite_nf k
end
end K59

set_option Elab.async false
set_option linter.all false
set_option maxRecDepth 100000
set_option maxHeartbeats 2000000
namespace K59
open PySem PySem.Spec L2 DL
local macro_rules | `(tactic| walk_at "se") => `(tactic| first | with_reducible exact se_0 | ((with_reducible refine' se_s ?h); (case h => walk_at "se")))
local macro_rules | `(tactic| walk_at "wp") => `(tactic| first | with_reducible exact wipe_nil | ((with_reducible refine' wipe_cons ?h1 ?h2); (case h1 => walk_at "wp"); (case h2 => walk_at "se")))
local macro_rules | `(tactic| walk_at "d1") => `(tactic| first
  | ((with_reducible refine' ed_var ?h ?_); (case h => rfl)) | with_reducible refine' ed_op ?_ | with_reducible refine' ed_int ?_ | with_reducible refine' ed_str ?_
  | with_reducible refine' sd_seq ?_ | with_reducible refine' sd_if ?_ | with_reducible refine' sd_asgN ?_ | ((with_reducible refine' env_mk ?h ?_); (case h => walk_at "se")) | with_reducible refine' sd_ret ?_ | with_reducible refine' sd_next ?_ | with_reducible refine' sd_retN ?_
  | with_reducible refine' td_tst ?_ | with_reducible refine' td_b ?_ | with_reducible refine' td_tru ?_ | with_reducible refine' tru_b ?_ | with_reducible refine' tru_i ?_ | with_reducible refine' tru_l ?_ | with_reducible refine' tru_t ?_ | with_reducible refine' tru_n ?_ | with_reducible refine' td_not ?_ | with_reducible refine' td_and ?_ | with_reducible refine' td_or ?_ | with_reducible refine' td_yes ?_
  | with_reducible refine' isBl_mk ?_
  | with_reducible refine' ed_bl ?_ | with_reducible refine' ed_non ?_
  | with_reducible refine' ed_un ?_ | with_reducible refine' ed_if ?_ | with_reducible refine' ed_and ?_ | with_reducible refine' ed_or ?_ | with_reducible refine' ed_not ?_
  | with_reducible refine' ed_tup ?_ | with_reducible refine' ed_lst ?_ | with_reducible refine' ad_cons ?_ | with_reducible refine' ad_nil ?_ | ((with_reducible refine' ed_is2 ?h ?_); (case h => decide)) | ((with_reducible refine' is_mk (b := true) ?h ?_); (case h => rfl)) | ((with_reducible refine' is_mk (b := false) ?h ?_); (case h => rfl)) | with_reducible refine' ite_t ?_ | with_reducible refine' ite_f ?_ | with_reducible refine' ite_nt ?_ | with_reducible refine' ite_nf ?_ | with_reducible refine' ed_callB ?_ | with_reducible refine' ed_call ?_
  | with_reducible refine' oa_i ?_ | with_reducible refine' os_i ?_ | with_reducible refine' ud_neg ?_ | with_reducible refine' od_cmp ?_ | with_reducible refine' cd_int ?_
  | ((with_reducible refine' od_is ?h ?_); (case h => decide +kernel)) | ((with_reducible refine' od_nis ?h ?_); (case h => decide +kernel))
  | with_reducible refine' ow_s ?_ | with_reducible refine' ow_i ?_ | with_reducible refine' ow_b ?_ | with_reducible refine' ow_e ?_ | with_reducible refine' ow_z ?_ | with_reducible refine' nv_s ?_ | with_reducible refine' nv_i ?_ | with_reducible refine' nv_bb ?_
  | ((with_reducible refine' od_ixt ?h ?_); (case h => rfl)) | ((with_reducible refine' od_ixl ?h ?_); (case h => rfl)) | ((with_reducible refine' ix_s ?h1 ?h2 ?_); (case h1 => (refine Nat.le_of_ble_eq_true ?_; rfl)); (case h2 => rfl))
  | with_reducible refine' ed_sl ?_ | with_reducible refine' pd_none ?_ | with_reducible refine' pd_some ?_ | with_reducible refine' pd_int ?_ | with_reducible refine' sl_scr ?_ | with_reducible refine' sl_lst ?_ | with_reducible refine' sl_tup ?_ | with_reducible refine' sl_str ?_ ?_
  | with_reducible refine' ed_revA ?_ | with_reducible refine' rv_lst ?_ | with_reducible refine' rv_tup ?_ | with_reducible refine' cd_listL ?_ | with_reducible refine' cd_listT ?_ | with_reducible refine' cd_sum ?_ | with_reducible refine' cd_all ?_
  | with_reducible refine' ed_disp2 ?_ | with_reducible refine' ppd_nil ?_ | with_reducible refine' ppd_cons ?_ | with_reducible refine' key_s ?_ | with_reducible refine' key_i ?_ | with_reducible refine' ed_dget ?_ | ((with_reducible refine' dget_mk ?h1 ?h2 ?_); (case h1 => rfl); (case h2 => rfl)) | ((with_reducible refine' disp_same ?h1 ?h2 ?_); (case h1 => (refine Nat.le_of_ble_eq_true ?_; rfl)); (case h2 => rfl)) | ((with_reducible refine' disp_mk ?h1 ?h2 ?_); (case h1 => (refine Nat.le_of_ble_eq_true ?_; rfl)); (case h2 => rfl)) | with_reducible refine' ex_lst ?_ | with_reducible refine' ex_tup ?_ | with_reducible refine' ex_str ?_ | with_reducible refine' ed_join2 ?_ | ((with_reducible refine' join_mk ?h1 ?h2 ?h3 ?_); (case h1 => rfl); (case h2 => (refine Nat.le_of_ble_eq_true ?_; rfl)); (case h3 => rfl)) | with_reducible refine' ed_lcW ?_ | ((with_reducible refine' wipe_mk ?h ?_); (case h => walk_at "wp")) | with_reducible refine' sd_forA ?_ | with_reducible refine' sd_asgA ?_ | with_reducible refine' wd_strU ?_ | with_reducible refine' wd_rangeL ?_ | ((with_reducible refine' rng_mk (items := [.int 0, .int 1]) ?h1 ?h2 ?_); (case h1 => decide); (case h2 => rfl)) | ((with_reducible refine' rng_mk (items := [.int 0, .int 1, .int 2]) ?h1 ?h2 ?_); (case h1 => decide); (case h2 => rfl)) | ((with_reducible refine' rng_mk (items := [.int 0, .int 1, .int 2, .int 3]) ?h1 ?h2 ?_); (case h1 => decide); (case h2 => rfl)) | ((with_reducible refine' rng_mk (items := [.int 0, .int 1, .int 2, .int 3, .int 4]) ?h1 ?h2 ?_); (case h1 => decide); (case h2 => rfl)) | ((with_reducible refine' rng_mk (items := [.int 0, .int 1, .int 2, .int 3, .int 4, .int 5]) ?h1 ?h2 ?_); (case h1 => decide); (case h2 => rfl)) | with_reducible refine' wd_list ?_ | with_reducible refine' wd_tup ?_ | with_reducible refine' lcW_nil ?_ | with_reducible refine' lcW_consY ?_ | with_reducible refine' lcW_cons ?_ | with_reducible refine' forU_nil ?_ | with_reducible refine' forU_cons ?_
  | with_reducible refine' sd_parN ?_ | with_reducible refine' sd_par3N ?_ | with_reducible refine' par2_mk ?_ | with_reducible refine' par3_mk ?_
  | ((with_reducible refine' gd_nameN ?h ?_); (case h => decide)) | with_reducible refine' gds_cons ?_ | with_reducible refine' gds_nil ?_ | ((with_reducible refine' gd_tup ?h ?_); (case h => rfl)) | ((with_reducible refine' gd_unlU ?h ?_); (case h => rfl))
  | ((with_reducible refine' sz_ok ?h ?_); (case h => (refine Nat.le_of_ble_eq_true ?_; rfl))) | fail)
local macro_rules | `(tactic| walk_at "d") => `(tactic| repeat walk_at "d1")
local macro_rules | `(tactic| walk_at "ds") => `(tactic| repeat' (first | walk_at "d1" | with_reducible refine' dite2 (fun _ => ?_) (fun _ => ?_)))
local macro_rules | `(tactic| walk_at "dm") => `(tactic| repeat' (first | with_reducible refine' sd_retL ?_ | walk_at "d1" | with_reducible refine' om_mul (cm_r ?_ ?_) (fun _ _ => ?_) | with_reducible refine' om_any ?_ (fun _ _ _ => ?_) | with_reducible refine' of_div ?_ ?_ ?_ | ((with_reducible refine' op_lit ?h ?_); (case h => decide)) | ((with_reducible refine' sd_push ?h ?_); (case h => rfl)) | with_reducible refine' andN ?_ ?_ | with_reducible refine' dite2 (fun _ => ?_) (fun _ => ?_) | omega))
local macro_rules | `(tactic| walk_at "st") => `(tactic| simp only [startD, List.map_cons, List.map_nil, List.length_cons, List.length_nil, List.cons_append, List.nil_append, Nat.reduceAdd, Nat.reduceSub, List.replicate])

local macro_rules | `(tactic| walk_at "k") => `(tactic| repeat' (first | with_reducible refine' lc4 ?_ | with_reducible refine' od_we ?_ | with_reducible refine' od_wp ?_ | with_reducible refine' od_ws ?_ | with_reducible refine' od_ww ?_ | with_reducible refine' od_nw ?_ | walk_at "d1" | with_reducible refine' dite2 (fun _ => ?_) (fun _ => ?_)))
local macro_rules | `(tactic| walk_at "k2") => `(tactic| repeat' (first | with_reducible refine' kd1 ?_ | with_reducible refine' kd2 ?_ | with_reducible refine' kd3 ?_ | with_reducible refine' lc4 ?_ | with_reducible refine' od_we ?_ | with_reducible refine' od_wp ?_ | with_reducible refine' od_ws ?_ | with_reducible refine' od_ww ?_ | with_reducible refine' od_nw ?_ | walk_at "d1" | with_reducible refine' dite2 (fun _ => ?_) (fun _ => ?_)))
local macro_rules | `(tactic| walk_at "k3") => `(tactic| repeat' (first | with_reducible refine' lcW_nil ?_ | with_reducible refine' lcW_consY ?_ | with_reducible refine' lcW_consM ?_ ?_ | with_reducible refine' same1 ?_ | with_reducible exact ⟨rfl, rfl⟩ | with_reducible refine' lc4 ?_ | with_reducible refine' od_we ?_ | with_reducible refine' od_wp ?_ | with_reducible refine' od_ws ?_ | with_reducible refine' od_ww ?_ | with_reducible refine' od_nw ?_ | walk_at "d1" | fail))
local macro_rules | `(tactic| walk_at "kw") => `(tactic| repeat' (first | ((with_reducible refine' td_whole ?h1 ?h2 ?_); (case h1 => rfl); (case h2 => assumption)) | walk_at "d1" | with_reducible refine' dite2 (fun _ => ?_) (fun _ => ?_) | fail))
section
variable {c : Cn} {n : Nat} {ds : List Dv} {R : Nat → Dv → Prop}
theorem any_turn {x : Str} {ys : List Str} (hp : ys.Perm (T16.map tx)) : (ys.map Dv.str).any (fun e => eqD e (.str x)) = turnS x := by
  rw [turn_mem]
  have h1 : (ys.map Dv.str).any (fun e => eqD e (.str x)) = ys.any (fun y => y == x) := by
    rw [List.any_map]
    rfl
  rw [h1]
  by_cases h : x ∈ T16.map tx
  · rw [decide_eq_true h]
    exact List.any_eq_true.mpr ⟨x, hp.mem_iff.mpr h, by simp⟩
  · rw [decide_eq_false h]
    refine Bool.eq_false_iff.mpr fun z => ?_
    obtain ⟨y, hy, e⟩ := List.any_eq_true.mp z
    have e : y = x := by simpa using e
    exact h (hp.mem_iff.mp (e ▸ hy))
theorem flat_strs (ys : List Str) : (ys.map Dv.str).all flatD = true := by
  rw [List.all_map, List.all_eq_true]
  intro y _
  rfl
theorem w__law_is_motion (hC : C__law_is_motion n ds R) : SD c (t__law_is_motion c.K) n (startD 2 ds) { nx := fun n _ => R n .non, rt := R } := by
  obtain ⟨d, rfl, hd, hR⟩ := hC
  unfold t__law_is_motion
  walk_at "st"
  cases d with
  | tup l =>
    walk_at "d"
    refine cd_len rfl ?_
    walk_at "d"
    by_cases hl : l.length = 3
    · match l, hl with
      | [x, y, z], _ =>
        refine iteF ?_
        cases x with
        | str s =>
          walk_at "d"
          refine ⟨rfl, fun ys hp => ?_⟩
          refine ni_l ⟨rfl, flat_strs ys⟩ ?_
          rw [any_turn hp]
          walk_at "d"
          refine dite2 (fun q => ?_) (fun q => ?_)
          · walk_at "d"
            have q' : turnS s = false := by simpa using q
            simpa [motD, turnD, q'] using hR
          · have q' : turnS s = true := by simpa using q
            have hoy : okD y = true := (hd.item (by simp)).ok
            have hoz : okD z = true := (hd.item (by simp)).ok
            walk_at "kw"
            rw [show cutD [Dv.str s, y, z] (some 1) none = [y, z] from rfl]
            walk_at "kw"
            all_goals simp_all [motD, turnD]
        | ins _ _ => have := (hd.item (List.mem_cons_self)).ok; simp [okD] at this
        | deck _ => have := (hd.item (List.mem_cons_self)).ok; simp [okD] at this
        | scr _ => have := (hd.item (List.mem_cons_self)).ok; simp [okD] at this
        | _ => walk_at "d"; simpa [motD, turnD] using hR
    · rw [bad_len hl]
      refine iteT ?_
      walk_at "d"
      have : motD (.tup l) = false := by
        unfold motD
        split
        · rename_i e
          cases e
          exact absurd rfl hl
        · rfl
      rwa [this] at hR
  | non => walk_at "d"; exact hR
  | bl b => walk_at "d"; exact hR
  | int i => walk_at "d"; exact hR
  | str l => walk_at "d"; exact hR
  | lst l => walk_at "d"; exact hR
  | dic l => walk_at "d"; exact hR
  | ins _ _ => have := hd.ok; simp [okD] at this
  | deck _ => have := hd.ok; simp [okD] at this
  | scr _ => have := hd.ok; simp [okD] at this
theorem w__law_motion (hC : C__law_motion n ds R) : SD c (t__law_motion c.K) n (startD 3 ds) { nx := fun n _ => R n .non, rt := R } := by
  obtain ⟨rfl, hn, hR⟩ := hC
  unfold t__law_motion
  walk_at "st"
  walk_at "d"
  refine ⟨rfl, fun ys hp => ?_⟩
  walk_at "d"
  refine ⟨_, rfl, ?_, ?_, by omega, fun d hd => ?_⟩
  · intro h
    have := hp.length_eq
    rw [List.map_eq_nil_iff.mp h] at this
    exact absurd this (by decide +kernel)
  · rw [List.length_map, hp.length_eq]
    decide
  obtain ⟨y, hy, rfl⟩ := List.mem_map.mp hd
  obtain ⟨t, _, rfl⟩ := List.mem_map.mp (hp.mem_iff.mp hy)
  walk_at "d"
  refine ⟨4, rfl, by omega, by omega, by omega, fun j j0 j1 => ?_⟩
  walk_at "ds"
  · refine ⟨9, rfl, by omega, by omega, by omega, fun i i0 i1 => ?_⟩
    walk_at "d"
    refine of_div (by omega) (by omega) ?_
    walk_at "d"
    refine ⟨9, rfl, by omega, by omega, by omega, fun k k0 k1 => ?_⟩
    walk_at "d"
    refine of_div (by omega) (by omega) ?_
    walk_at "d"
    exact hR ⟨t, i - 9 / 2, k - 9 / 2⟩ ⟨by simp only; omega, by simp only; omega⟩
  · refine ⟨41, rfl, by omega, by omega, by omega, fun i i0 i1 => ?_⟩
    walk_at "d"
    refine of_div (by omega) (by omega) ?_
    walk_at "d"
    refine ⟨41, rfl, by omega, by omega, by omega, fun k k0 k1 => ?_⟩
    walk_at "d"
    refine of_div (by omega) (by omega) ?_
    walk_at "d"
    exact hR ⟨t, i - 41 / 2, k - 41 / 2⟩ ⟨by simp only; omega, by simp only; omega⟩
end
end K59

set_option Elab.async false
set_option linter.all false
set_option maxRecDepth 100000
set_option maxHeartbeats 2000000
namespace K59
open PySem PySem.Spec L2 DL
local macro_rules | `(tactic| walk_at "se") => `(tactic| first | with_reducible exact se_0 | ((with_reducible refine' se_s ?h); (case h => walk_at "se")))
local macro_rules | `(tactic| walk_at "wp") => `(tactic| first | with_reducible exact wipe_nil | ((with_reducible refine' wipe_cons ?h1 ?h2); (case h1 => walk_at "wp"); (case h2 => walk_at "se")))
local macro_rules | `(tactic| walk_at "d1") => `(tactic| first
  | ((with_reducible refine' ed_var ?h ?_); (case h => rfl)) | with_reducible refine' ed_op ?_ | with_reducible refine' ed_int ?_ | with_reducible refine' ed_str ?_
  | with_reducible refine' sd_seq ?_ | with_reducible refine' sd_if ?_ | with_reducible refine' sd_asgN ?_ | ((with_reducible refine' env_mk ?h ?_); (case h => walk_at "se")) | with_reducible refine' sd_ret ?_ | with_reducible refine' sd_next ?_ | with_reducible refine' sd_retN ?_
  | with_reducible refine' td_tst ?_ | with_reducible refine' td_b ?_ | with_reducible refine' td_tru ?_ | with_reducible refine' tru_b ?_ | with_reducible refine' tru_i ?_ | with_reducible refine' tru_l ?_ | with_reducible refine' tru_t ?_ | with_reducible refine' tru_n ?_ | with_reducible refine' td_not ?_ | with_reducible refine' td_and ?_ | with_reducible refine' td_or ?_ | with_reducible refine' td_yes ?_
  | with_reducible refine' isBl_mk ?_
  | with_reducible refine' ed_bl ?_ | with_reducible refine' ed_non ?_
  | with_reducible refine' ed_un ?_ | with_reducible refine' ed_if ?_ | with_reducible refine' ed_and ?_ | with_reducible refine' ed_or ?_ | with_reducible refine' ed_not ?_
  | with_reducible refine' ed_tup ?_ | with_reducible refine' ed_lst ?_ | with_reducible refine' ad_cons ?_ | with_reducible refine' ad_nil ?_ | ((with_reducible refine' ed_is2 ?h ?_); (case h => decide)) | ((with_reducible refine' is_mk (b := true) ?h ?_); (case h => rfl)) | ((with_reducible refine' is_mk (b := false) ?h ?_); (case h => rfl)) | with_reducible refine' ite_t ?_ | with_reducible refine' ite_f ?_ | with_reducible refine' ite_nt ?_ | with_reducible refine' ite_nf ?_ | with_reducible refine' ed_callB ?_ | with_reducible refine' ed_call ?_
  | with_reducible refine' oa_i ?_ | with_reducible refine' os_i ?_ | with_reducible refine' ud_neg ?_ | with_reducible refine' od_cmp ?_ | with_reducible refine' cd_int ?_
  | ((with_reducible refine' od_is ?h ?_); (case h => decide +kernel)) | ((with_reducible refine' od_nis ?h ?_); (case h => decide +kernel))
  | with_reducible refine' ow_s ?_ | with_reducible refine' ow_i ?_ | with_reducible refine' ow_b ?_ | with_reducible refine' ow_e ?_ | with_reducible refine' ow_z ?_ | with_reducible refine' nv_s ?_ | with_reducible refine' nv_i ?_ | with_reducible refine' nv_bb ?_
  | ((with_reducible refine' od_ixt ?h ?_); (case h => rfl)) | ((with_reducible refine' od_ixl ?h ?_); (case h => rfl)) | ((with_reducible refine' ix_s ?h1 ?h2 ?_); (case h1 => (refine Nat.le_of_ble_eq_true ?_; rfl)); (case h2 => rfl))
  | with_reducible refine' ed_sl ?_ | with_reducible refine' pd_none ?_ | with_reducible refine' pd_some ?_ | with_reducible refine' pd_int ?_ | with_reducible refine' sl_scr ?_ | with_reducible refine' sl_lst ?_ | with_reducible refine' sl_tup ?_ | with_reducible refine' sl_str ?_ ?_
  | with_reducible refine' ed_revA ?_ | with_reducible refine' rv_lst ?_ | with_reducible refine' rv_tup ?_ | with_reducible refine' cd_listL ?_ | with_reducible refine' cd_listT ?_ | with_reducible refine' cd_sum ?_ | with_reducible refine' cd_all ?_
  | with_reducible refine' ed_disp2 ?_ | with_reducible refine' ppd_nil ?_ | with_reducible refine' ppd_cons ?_ | with_reducible refine' key_s ?_ | with_reducible refine' key_i ?_ | with_reducible refine' ed_dget ?_ | ((with_reducible refine' dget_mk ?h1 ?h2 ?_); (case h1 => rfl); (case h2 => rfl)) | ((with_reducible refine' disp_same ?h1 ?h2 ?_); (case h1 => (refine Nat.le_of_ble_eq_true ?_; rfl)); (case h2 => rfl)) | ((with_reducible refine' disp_mk ?h1 ?h2 ?_); (case h1 => (refine Nat.le_of_ble_eq_true ?_; rfl)); (case h2 => rfl)) | with_reducible refine' ex_lst ?_ | with_reducible refine' ex_tup ?_ | with_reducible refine' ex_str ?_ | with_reducible refine' ed_join2 ?_ | ((with_reducible refine' join_mk ?h1 ?h2 ?h3 ?_); (case h1 => rfl); (case h2 => (refine Nat.le_of_ble_eq_true ?_; rfl)); (case h3 => rfl)) | with_reducible refine' ed_lcW ?_ | ((with_reducible refine' wipe_mk ?h ?_); (case h => walk_at "wp")) | with_reducible refine' sd_forA ?_ | with_reducible refine' sd_asgA ?_ | with_reducible refine' wd_strU ?_ | with_reducible refine' wd_rangeL ?_ | ((with_reducible refine' rng_mk (items := [.int 0, .int 1]) ?h1 ?h2 ?_); (case h1 => decide); (case h2 => rfl)) | ((with_reducible refine' rng_mk (items := [.int 0, .int 1, .int 2]) ?h1 ?h2 ?_); (case h1 => decide); (case h2 => rfl)) | ((with_reducible refine' rng_mk (items := [.int 0, .int 1, .int 2, .int 3]) ?h1 ?h2 ?_); (case h1 => decide); (case h2 => rfl)) | ((with_reducible refine' rng_mk (items := [.int 0, .int 1, .int 2, .int 3, .int 4]) ?h1 ?h2 ?_); (case h1 => decide); (case h2 => rfl)) | ((with_reducible refine' rng_mk (items := [.int 0, .int 1, .int 2, .int 3, .int 4, .int 5]) ?h1 ?h2 ?_); (case h1 => decide); (case h2 => rfl)) | with_reducible refine' wd_list ?_ | with_reducible refine' wd_tup ?_ | with_reducible refine' lcW_nil ?_ | with_reducible refine' lcW_consY ?_ | with_reducible refine' lcW_cons ?_ | with_reducible refine' forU_nil ?_ | with_reducible refine' forU_cons ?_
  | with_reducible refine' sd_parN ?_ | with_reducible refine' sd_par3N ?_ | with_reducible refine' par2_mk ?_ | with_reducible refine' par3_mk ?_
  | ((with_reducible refine' gd_nameN ?h ?_); (case h => decide)) | with_reducible refine' gds_cons ?_ | with_reducible refine' gds_nil ?_ | ((with_reducible refine' gd_tup ?h ?_); (case h => rfl)) | ((with_reducible refine' gd_unlU ?h ?_); (case h => rfl))
  | ((with_reducible refine' sz_ok ?h ?_); (case h => (refine Nat.le_of_ble_eq_true ?_; rfl))) | fail)
local macro_rules | `(tactic| walk_at "d") => `(tactic| repeat walk_at "d1")
local macro_rules | `(tactic| walk_at "ds") => `(tactic| repeat' (first | walk_at "d1" | with_reducible refine' dite2 (fun _ => ?_) (fun _ => ?_)))
local macro_rules | `(tactic| walk_at "dm") => `(tactic| repeat' (first | with_reducible refine' sd_retL ?_ | walk_at "d1" | with_reducible refine' om_mul (cm_r ?_ ?_) (fun _ _ => ?_) | with_reducible refine' om_any ?_ (fun _ _ _ => ?_) | with_reducible refine' of_div ?_ ?_ ?_ | ((with_reducible refine' op_lit ?h ?_); (case h => decide)) | ((with_reducible refine' sd_push ?h ?_); (case h => rfl)) | with_reducible refine' andN ?_ ?_ | with_reducible refine' dite2 (fun _ => ?_) (fun _ => ?_) | omega))
local macro_rules | `(tactic| walk_at "st") => `(tactic| simp only [startD, List.map_cons, List.map_nil, List.length_cons, List.length_nil, List.cons_append, List.nil_append, Nat.reduceAdd, Nat.reduceSub, List.replicate])

local macro_rules | `(tactic| walk_at "k") => `(tactic| repeat' (first | with_reducible refine' lc4 ?_ | with_reducible refine' od_we ?_ | with_reducible refine' od_wp ?_ | with_reducible refine' od_ws ?_ | with_reducible refine' od_ww ?_ | with_reducible refine' od_nw ?_ | walk_at "d1" | with_reducible refine' dite2 (fun _ => ?_) (fun _ => ?_)))
local macro_rules | `(tactic| walk_at "k2") => `(tactic| repeat' (first | with_reducible refine' kd1 ?_ | with_reducible refine' kd2 ?_ | with_reducible refine' kd3 ?_ | with_reducible refine' lc4 ?_ | with_reducible refine' od_we ?_ | with_reducible refine' od_wp ?_ | with_reducible refine' od_ws ?_ | with_reducible refine' od_ww ?_ | with_reducible refine' od_nw ?_ | walk_at "d1" | with_reducible refine' dite2 (fun _ => ?_) (fun _ => ?_)))
local macro_rules | `(tactic| walk_at "k3") => `(tactic| repeat' (first | with_reducible refine' lcW_nil ?_ | with_reducible refine' lcW_consY ?_ | with_reducible refine' lcW_consM ?_ ?_ | with_reducible refine' same1 ?_ | with_reducible exact ⟨rfl, rfl⟩ | with_reducible refine' lc4 ?_ | with_reducible refine' od_we ?_ | with_reducible refine' od_wp ?_ | with_reducible refine' od_ws ?_ | with_reducible refine' od_ww ?_ | with_reducible refine' od_nw ?_ | walk_at "d1" | fail))
local macro_rules | `(tactic| walk_at "kw") => `(tactic| repeat' (first | ((with_reducible refine' td_whole ?h1 ?h2 ?_); (case h1 => rfl); (case h2 => assumption)) | walk_at "d1" | with_reducible refine' dite2 (fun _ => ?_) (fun _ => ?_) | fail))
local macro_rules | `(tactic| walk_at "ko") => `(tactic| repeat' (first | with_reducible refine' ed_dnew ?_ | with_reducible refine' oa_bi ?_ | with_reducible refine' os_bi ?_ | with_reducible refine' cs_b ?_ | ((with_reducible refine' op_lit ?h ?_); (case h => decide)) | walk_at "d1" | fail))
section
variable {c : Cn} {n : Nat} {ds : List Dv} {R : Nat → Dv → Prop}
theorem w__law_odd (hC : C__law_odd n ds R) : SD c (t__law_odd c.K) n (startD 3 ds) { nx := fun n _ => R n .non, rt := R } := by
  obtain ⟨m, k, d, rfl, hd, hm, hk, hn, hR⟩ := hC
  unfold t__law_odd
  walk_at "st"
  walk_at "ko"
  refine oA (od_addl ?_ ?_)
  · show 19 ≤ sizeLine
    decide
  have hb : ∀ d ∈ ([Dv.non, .bl true, .bl false, .int 0, .int 1, .int (-1), .int (10 ^ (39 : Int).toNat), .str "", .str "e", .str "ps", .str "pe", .str "ee", .str "x", .str "same", .str "unlike"] ++ [.tup [], .tup [.str "", .int 0, .int 0], .lst [], .dic []] : List Dv), Ok 150 1 d := okB_all (by decide +kernel)
  have hl : ([Dv.non, .bl true, .bl false, .int 0, .int 1, .int (-1), .int (10 ^ (39 : Int).toNat), .str "", .str "e", .str "ps", .str "pe", .str "ee", .str "x", .str "same", .str "unlike"] ++ [.tup [], .tup [.str "", .int 0, .int 0], .lst [], .dic []] : List Dv).length = 19 := rfl
  revert hb hl
  generalize ([Dv.non, .bl true, .bl false, .int 0, .int 1, .int (-1), .int (10 ^ (39 : Int).toNat), .str "", .str "e", .str "ps", .str "pe", .str "ee", .str "x", .str "same", .str "unlike"] ++ [.tup [], .tup [.str "", .int 0, .int 0], .lst [], .dic []] : List Dv) = base
  intro hb hl
  have fin : ∀ xs : List Dv, 0 < xs.length → xs.length < 1000 → (∀ d' ∈ xs, Ok (2 * m + 150) (k + 1) d') → C__law_pick n [.deck "blend", .lst xs] { nx := fun n _ => R n .non, rt := R : DN }.rt := fun xs h1 h2 h3 =>
    ⟨xs, rfl, fun z => by rw [z] at h1; exact absurd h1 (by decide), by omega, hn, fun d hd => hR d (h3 d hd)⟩
  have hb' : ∀ d' ∈ base, Ok (2 * m + 150) (k + 1) d' := fun d' h => (hb d' h).more (by omega) (by omega)
  have two : ∀ L es : List Dv, (∀ d' ∈ L, d' ∈ es) → (∀ d' ∈ es, Ok (2 * m + 150) (k + 1) d') → ∀ d' ∈ base ++ L, Ok (2 * m + 150) (k + 1) d' := fun L es h1 h2 d' h => (List.mem_append.mp h).elim (hb' d') fun z => h2 d' (h1 d' z)
  cases d with
  | int i =>
    have hi := hd.intA
    walk_at "ko"
    refine cs_i (by omega) ?_
    walk_at "ko"
    refine od_repP (m := 3) (by decide) (by show 4 ≤ 10000; decide) fun L hL hLl => oA (od_addl (by rw [sizeLine_eq, hl, hLl]; simp) ?_)
    walk_at "ko"
    refine fin _ (by rw [List.length_append]; omega) (by rw [List.length_append, hl, hLl]; simp) (two _ _ hL ?_)
    intro d' hd'
    simp only [List.mem_cons, List.not_mem_nil, or_false] at hd'
    rcases hd' with rfl | rfl | rfl | rfl
    · exact (hd.near (by omega) (by omega)).more (by omega) (by omega)
    · exact (hd.near (by omega) (by omega)).more (by omega) (by omega)
    · exact .bl
    · have := int_text_length_le (a := i) (k := m + 1) (by omega) (by omega)
      exact .str (strOk_lit _) (by show (Str.ofString (toString i)).length ≤ _; rw [PySem.ofString_length]; omega)
  | bl b =>
    walk_at "ko"
    refine ow_t ⟨rfl, rfl, rfl, rfl⟩ ?_
    walk_at "ko"
    refine od_repP (m := 3) (by decide) (by show 4 ≤ 10000; decide) fun L hL hLl => oA (od_addl (by rw [sizeLine_eq, hl, hLl]; simp) ?_)
    walk_at "ko"
    refine fin _ (by rw [List.length_append]; omega) (by rw [List.length_append, hl, hLl]; simp) (two _ _ hL ?_)
    intro d' hd'
    simp only [List.mem_cons, List.not_mem_nil, or_false] at hd'
    rcases hd' with rfl | rfl | rfl | rfl
    · exact (okB_ok (m := 150) (k := 1) (by cases b <;> decide +kernel)).more (by omega) (by omega)
    · exact (okB_ok (m := 150) (k := 1) (by cases b <;> decide +kernel)).more (by omega) (by omega)
    · exact .bl
    · exact (okB_ok (m := 150) (k := 1) (by cases b <;> decide +kernel)).more (by omega) (by omega)
  | str x =>
    obtain ⟨h1, h2⟩ := hd.strA
    have hz : x.length ≤ 1000 := by show x.cps.size ≤ 1000; omega
    have hz2 : x.length ≤ sizeLine := by rw [sizeLine_eq]; omega
    walk_at "ko"
    refine oA (od_adds (by show _ + 1 ≤ _; rw [sizeLine_eq]; omega) ?_)
    walk_at "ko"
    · exact hz2
    refine oA (od_adds (by show _ + 1 ≤ _; rw [sizeLine_eq]; omega) ?_)
    walk_at "ko"
    refine rv_str hz2 ?_
    walk_at "ko"
    refine od_repP (m := 2) (by decide) (by show 5 ≤ 10000; decide) fun L hL hLl => oA (od_addl (by rw [sizeLine_eq, hl, hLl]; simp) ?_)
    walk_at "ko"
    refine fin _ (by rw [List.length_append]; omega) (by rw [List.length_append, hl, hLl]; simp) (two _ _ hL ?_)
    intro d' hd'
    simp only [List.mem_cons, List.not_mem_nil, or_false] at hd'
    have al : ∀ y : Str, (x ++ y).cps.size = x.cps.size + y.cps.size := fun y => by
      show (x.cps ++ y.cps).size = _
      exact Array.size_append ..
    rcases hd' with rfl | rfl | rfl | rfl | rfl
    · exact .str (strOk_app h1 (strOk_lit _)) (by rw [al]; show _ + 1 ≤ _; omega)
    · exact .str (cutS_ok h1) (by have := cutS_len x (some 1) none; omega)
    · exact .str (strOk_app h1 (strOk_lit _)) (by rw [al]; show _ + 1 ≤ _; omega)
    · exact .str (revS_ok h1) (by have := revS_length x; show (revS x).length ≤ _; rw [this]; show x.cps.size ≤ _; omega)
    · exact hd.one.more (by omega) (by omega)
  | tup l =>
    obtain ⟨h1, h2, h3⟩ := hd.tupA
    have hz : l.length ≤ 1000 := by have := len_wtA l; omega
    walk_at "ko"
    refine oA (od_addt ?_ ?_)
    · have : (cutD l (some (-1)) none).length ≤ l.length := by unfold cutD; simp only [List.length_take, List.length_drop]; omega
      rw [sizeLine_eq]
      omega
    walk_at "ko"
    refine od_repP (m := 2) (by decide) (by show 5 ≤ 10000; decide) fun L hL hLl => oA (od_addl (by rw [sizeLine_eq, hl, hLl]; simp) ?_)
    walk_at "ko"
    refine fin _ (by rw [List.length_append]; omega) (by rw [List.length_append, hl, hLl]; simp) (two _ _ hL ?_)
    intro d' hd'
    simp only [List.mem_cons, List.not_mem_nil, or_false] at hd'
    rcases hd' with rfl | rfl | rfl | rfl | rfl
    · exact hd.listT.more (by omega) (by omega)
    · exact (hd.cutT _ _).more (by omega) (by omega)
    · exact (hd.cutT _ _).more (by omega) (by omega)
    · exact (hd.appT (hd.cutT _ _)).more (by omega) (by omega)
    · exact hd.revT.more (by omega) (by omega)
  | ins _ _ => have := hd.ok; simp [okD] at this
  | deck _ => have := hd.ok; simp [okD] at this
  | scr _ => have := hd.ok; simp [okD] at this
  | _ =>
    walk_at "ko"
    exact fin _ (by omega) (by omega) hb'
end
end K59

set_option Elab.async false
set_option linter.all false
set_option maxRecDepth 100000
set_option maxHeartbeats 2000000
namespace K59
open PySem PySem.Spec L2 DL
local macro_rules | `(tactic| walk_at "se") => `(tactic| first | with_reducible exact se_0 | ((with_reducible refine' se_s ?h); (case h => walk_at "se")))
local macro_rules | `(tactic| walk_at "wp") => `(tactic| first | with_reducible exact wipe_nil | ((with_reducible refine' wipe_cons ?h1 ?h2); (case h1 => walk_at "wp"); (case h2 => walk_at "se")))
local macro_rules | `(tactic| walk_at "d1") => `(tactic| first
  | ((with_reducible refine' ed_var ?h ?_); (case h => rfl)) | with_reducible refine' ed_op ?_ | with_reducible refine' ed_int ?_ | with_reducible refine' ed_str ?_
  | with_reducible refine' sd_seq ?_ | with_reducible refine' sd_if ?_ | with_reducible refine' sd_asgN ?_ | ((with_reducible refine' env_mk ?h ?_); (case h => walk_at "se")) | with_reducible refine' sd_ret ?_ | with_reducible refine' sd_next ?_ | with_reducible refine' sd_retN ?_
  | with_reducible refine' td_tst ?_ | with_reducible refine' td_b ?_ | with_reducible refine' td_tru ?_ | with_reducible refine' tru_b ?_ | with_reducible refine' tru_i ?_ | with_reducible refine' tru_l ?_ | with_reducible refine' tru_t ?_ | with_reducible refine' tru_n ?_ | with_reducible refine' td_not ?_ | with_reducible refine' td_and ?_ | with_reducible refine' td_or ?_ | with_reducible refine' td_yes ?_
  | with_reducible refine' isBl_mk ?_
  | with_reducible refine' ed_bl ?_ | with_reducible refine' ed_non ?_
  | with_reducible refine' ed_un ?_ | with_reducible refine' ed_if ?_ | with_reducible refine' ed_and ?_ | with_reducible refine' ed_or ?_ | with_reducible refine' ed_not ?_
  | with_reducible refine' ed_tup ?_ | with_reducible refine' ed_lst ?_ | with_reducible refine' ad_cons ?_ | with_reducible refine' ad_nil ?_ | ((with_reducible refine' ed_is2 ?h ?_); (case h => decide)) | ((with_reducible refine' is_mk (b := true) ?h ?_); (case h => rfl)) | ((with_reducible refine' is_mk (b := false) ?h ?_); (case h => rfl)) | with_reducible refine' ite_t ?_ | with_reducible refine' ite_f ?_ | with_reducible refine' ite_nt ?_ | with_reducible refine' ite_nf ?_ | with_reducible refine' ed_callB ?_ | with_reducible refine' ed_call ?_
  | with_reducible refine' oa_i ?_ | with_reducible refine' os_i ?_ | with_reducible refine' ud_neg ?_ | with_reducible refine' od_cmp ?_ | with_reducible refine' cd_int ?_
  | ((with_reducible refine' od_is ?h ?_); (case h => decide +kernel)) | ((with_reducible refine' od_nis ?h ?_); (case h => decide +kernel))
  | with_reducible refine' ow_s ?_ | with_reducible refine' ow_i ?_ | with_reducible refine' ow_b ?_ | with_reducible refine' ow_e ?_ | with_reducible refine' ow_z ?_ | with_reducible refine' nv_s ?_ | with_reducible refine' nv_i ?_ | with_reducible refine' nv_bb ?_
  | ((with_reducible refine' od_ixt ?h ?_); (case h => rfl)) | ((with_reducible refine' od_ixl ?h ?_); (case h => rfl)) | ((with_reducible refine' ix_s ?h1 ?h2 ?_); (case h1 => (refine Nat.le_of_ble_eq_true ?_; rfl)); (case h2 => rfl))
  | with_reducible refine' ed_sl ?_ | with_reducible refine' pd_none ?_ | with_reducible refine' pd_some ?_ | with_reducible refine' pd_int ?_ | with_reducible refine' sl_scr ?_ | with_reducible refine' sl_lst ?_ | with_reducible refine' sl_tup ?_ | with_reducible refine' sl_str ?_ ?_
  | with_reducible refine' ed_revA ?_ | with_reducible refine' rv_lst ?_ | with_reducible refine' rv_tup ?_ | with_reducible refine' cd_listL ?_ | with_reducible refine' cd_listT ?_ | with_reducible refine' cd_sum ?_ | with_reducible refine' cd_all ?_
  | with_reducible refine' ed_disp2 ?_ | with_reducible refine' ppd_nil ?_ | with_reducible refine' ppd_cons ?_ | with_reducible refine' key_s ?_ | with_reducible refine' key_i ?_ | with_reducible refine' ed_dget ?_ | ((with_reducible refine' dget_mk ?h1 ?h2 ?_); (case h1 => rfl); (case h2 => rfl)) | ((with_reducible refine' disp_same ?h1 ?h2 ?_); (case h1 => (refine Nat.le_of_ble_eq_true ?_; rfl)); (case h2 => rfl)) | ((with_reducible refine' disp_mk ?h1 ?h2 ?_); (case h1 => (refine Nat.le_of_ble_eq_true ?_; rfl)); (case h2 => rfl)) | with_reducible refine' ex_lst ?_ | with_reducible refine' ex_tup ?_ | with_reducible refine' ex_str ?_ | with_reducible refine' ed_join2 ?_ | ((with_reducible refine' join_mk ?h1 ?h2 ?h3 ?_); (case h1 => rfl); (case h2 => (refine Nat.le_of_ble_eq_true ?_; rfl)); (case h3 => rfl)) | with_reducible refine' ed_lcW ?_ | ((with_reducible refine' wipe_mk ?h ?_); (case h => walk_at "wp")) | with_reducible refine' sd_forA ?_ | with_reducible refine' sd_asgA ?_ | with_reducible refine' wd_strU ?_ | with_reducible refine' wd_rangeL ?_ | ((with_reducible refine' rng_mk (items := [.int 0, .int 1]) ?h1 ?h2 ?_); (case h1 => decide); (case h2 => rfl)) | ((with_reducible refine' rng_mk (items := [.int 0, .int 1, .int 2]) ?h1 ?h2 ?_); (case h1 => decide); (case h2 => rfl)) | ((with_reducible refine' rng_mk (items := [.int 0, .int 1, .int 2, .int 3]) ?h1 ?h2 ?_); (case h1 => decide); (case h2 => rfl)) | ((with_reducible refine' rng_mk (items := [.int 0, .int 1, .int 2, .int 3, .int 4]) ?h1 ?h2 ?_); (case h1 => decide); (case h2 => rfl)) | ((with_reducible refine' rng_mk (items := [.int 0, .int 1, .int 2, .int 3, .int 4, .int 5]) ?h1 ?h2 ?_); (case h1 => decide); (case h2 => rfl)) | with_reducible refine' wd_list ?_ | with_reducible refine' wd_tup ?_ | with_reducible refine' lcW_nil ?_ | with_reducible refine' lcW_consY ?_ | with_reducible refine' lcW_cons ?_ | with_reducible refine' forU_nil ?_ | with_reducible refine' forU_cons ?_
  | with_reducible refine' sd_parN ?_ | with_reducible refine' sd_par3N ?_ | with_reducible refine' par2_mk ?_ | with_reducible refine' par3_mk ?_
  | ((with_reducible refine' gd_nameN ?h ?_); (case h => decide)) | with_reducible refine' gds_cons ?_ | with_reducible refine' gds_nil ?_ | ((with_reducible refine' gd_tup ?h ?_); (case h => rfl)) | ((with_reducible refine' gd_unlU ?h ?_); (case h => rfl))
  | ((with_reducible refine' sz_ok ?h ?_); (case h => (refine Nat.le_of_ble_eq_true ?_; rfl))) | fail)
local macro_rules | `(tactic| walk_at "d") => `(tactic| repeat walk_at "d1")
local macro_rules | `(tactic| walk_at "ds") => `(tactic| repeat' (first | walk_at "d1" | with_reducible refine' dite2 (fun _ => ?_) (fun _ => ?_)))
local macro_rules | `(tactic| walk_at "dm") => `(tactic| repeat' (first | with_reducible refine' sd_retL ?_ | walk_at "d1" | with_reducible refine' om_mul (cm_r ?_ ?_) (fun _ _ => ?_) | with_reducible refine' om_any ?_ (fun _ _ _ => ?_) | with_reducible refine' of_div ?_ ?_ ?_ | ((with_reducible refine' op_lit ?h ?_); (case h => decide)) | ((with_reducible refine' sd_push ?h ?_); (case h => rfl)) | with_reducible refine' andN ?_ ?_ | with_reducible refine' dite2 (fun _ => ?_) (fun _ => ?_) | omega))
local macro_rules | `(tactic| walk_at "st") => `(tactic| simp only [startD, List.map_cons, List.map_nil, List.length_cons, List.length_nil, List.cons_append, List.nil_append, Nat.reduceAdd, Nat.reduceSub, List.replicate])

local macro_rules | `(tactic| walk_at "k") => `(tactic| repeat' (first | with_reducible refine' lc4 ?_ | with_reducible refine' od_we ?_ | with_reducible refine' od_wp ?_ | with_reducible refine' od_ws ?_ | with_reducible refine' od_ww ?_ | with_reducible refine' od_nw ?_ | walk_at "d1" | with_reducible refine' dite2 (fun _ => ?_) (fun _ => ?_)))
local macro_rules | `(tactic| walk_at "k2") => `(tactic| repeat' (first | with_reducible refine' kd1 ?_ | with_reducible refine' kd2 ?_ | with_reducible refine' kd3 ?_ | with_reducible refine' lc4 ?_ | with_reducible refine' od_we ?_ | with_reducible refine' od_wp ?_ | with_reducible refine' od_ws ?_ | with_reducible refine' od_ww ?_ | with_reducible refine' od_nw ?_ | walk_at "d1" | with_reducible refine' dite2 (fun _ => ?_) (fun _ => ?_)))
local macro_rules | `(tactic| walk_at "k3") => `(tactic| repeat' (first | with_reducible refine' lcW_nil ?_ | with_reducible refine' lcW_consY ?_ | with_reducible refine' lcW_consM ?_ ?_ | with_reducible refine' same1 ?_ | with_reducible exact ⟨rfl, rfl⟩ | with_reducible refine' lc4 ?_ | with_reducible refine' od_we ?_ | with_reducible refine' od_wp ?_ | with_reducible refine' od_ws ?_ | with_reducible refine' od_ww ?_ | with_reducible refine' od_nw ?_ | walk_at "d1" | fail))
local macro_rules | `(tactic| walk_at "kw") => `(tactic| repeat' (first | ((with_reducible refine' td_whole ?h1 ?h2 ?_); (case h1 => rfl); (case h2 => assumption)) | walk_at "d1" | with_reducible refine' dite2 (fun _ => ?_) (fun _ => ?_) | fail))
local macro_rules | `(tactic| walk_at "ko") => `(tactic| repeat' (first | with_reducible refine' ed_dnew ?_ | with_reducible refine' oa_bi ?_ | with_reducible refine' os_bi ?_ | with_reducible refine' cs_b ?_ | ((with_reducible refine' op_lit ?h ?_); (case h => decide)) | walk_at "d1" | fail))
local macro_rules | `(tactic| walk_at "kb") => `(tactic| repeat' (first | with_reducible refine' sd_retL ?_ | walk_at "d1" | fail))
theorem cut_take {l : List Dv} {i : Int} (h : 0 ≤ i) (h2 : i.toNat ≤ l.length) : cutD l none (some i) = l.take i.toNat := by
  unfold cutD HT.sIx
  simp only [List.drop_zero]
  rw [if_neg (by omega), Nat.min_eq_left h2, Nat.sub_zero]
theorem cut_drop {l : List Dv} {i : Int} (h : 0 ≤ i) (h2 : i.toNat ≤ l.length) : cutD l (some i) none = l.drop i.toNat := by
  unfold cutD HT.sIx
  simp only []
  rw [if_neg (by omega), Nat.min_eq_left h2]
  exact List.take_of_length_le (by rw [List.length_drop]; omega)
section
variable {c : Cn} {n : Nat} {ds : List Dv} {R : Nat → Dv → Prop}
theorem w__law_bent {j : Nat} (hC : C_bentK (j + 1) n ds R) : SD c (t__law_bent c.K (C_bentK j)) n (startD 3 ds) { nx := fun n _ => R n .non, rt := R } := by
  obtain ⟨m, k, d, rfl, hd, hm, hk, hj, hn, hR⟩ := hC
  unfold t__law_bent
  walk_at "st"
  have odd : ∀ n', n - 2 ≤ n' → C__law_odd n' [.deck "blend", d] fun n1 d' => ∃ m', m' ≤ n1 ∧ { nx := fun n _ => R n .non, rt := R : DN }.rt m' d' := fun n' hn' =>
    ⟨m, k, d, rfl, hd, hm, by omega, by omega, fun d' h => ⟨n - (4 * (j + 1) + 4), by omega, hR d' (h.more (by omega) (by omega))⟩⟩
  cases d with
  | tup l =>
    obtain ⟨h1, h2, h3⟩ := hd.tupA
    have hz : l.length ≤ 1000 := by have := len_wtA l; omega
    walk_at "kb"
    cases l with
    | nil =>
      refine iteT ?_
      walk_at "kb"
      exact odd _ (by omega)
    | cons a r =>
      refine iteF ?_
      walk_at "kb"
      refine ⟨5, rfl, by omega, by omega, by omega, fun i i0 i1 => ?_⟩
      walk_at "kb"
      refine dite2 (fun q => ?_) (fun q => ?_)
      · walk_at "kb"
        exact odd _ (by omega)
      · walk_at "kb"
        refine cd_len rfl ?_
        walk_at "kb"
        have hp : 0 < (a :: r).length := by simp
        generalize (a :: r) = l at *
        refine ⟨_, rfl, by omega, by omega, by omega, fun i2 i20 i21 => ?_⟩
        have hi : i2.toNat < l.length := by omega
        walk_at "kb"
        refine od_ixt (at_nat i20 hi) ?_
        walk_at "kb"
        have hmem : l[i2.toNat] ∈ l := List.getElem_mem hi
        have hsp := wtA_split l i2.toNat
        rw [List.drop_eq_getElem_cons hi] at hsp
        simp only [pyA, PyData.weightAll] at hsp
        have hit : Ok (py l[i2.toNat]).weight (k - 1) l[i2.toNat] := ⟨okA_iff.mp h1 _ hmem, Nat.le_refl _, by have := dpA_mem hmem; omega⟩
        refine ⟨_, k - 1, _, rfl, hit, by omega, by omega, by omega, by omega, fun d' hd' => ?_⟩
        walk_at "kb"
        rw [cut_take i20 (by omega)]
        refine oA (od_addt ?_ ?_)
        · simp only [List.length_take, List.length_cons, List.length_nil]
          rw [sizeLine_eq]
          omega
        walk_at "kb"
        rw [cut_drop (by omega) (by omega)]
        have e1 : (i2 + 1).toNat = i2.toNat + 1 := by omega
        rw [e1]
        refine oA (od_addt ?_ ?_)
        · simp only [List.length_append, List.length_take, List.length_cons, List.length_nil, List.length_drop]
          rw [sizeLine_eq]
          omega
        refine ⟨n - (4 * (j + 1) + 4), by omega, hR _ ?_⟩
        have w1 := hd'.ok
        have w2 := hd'.wt
        have w3 := hd'.dp
        refine .tup ?_ ?_ ?_
        · refine okA_app.mpr ⟨okA_app.mpr ⟨okA_sub (fun _ => List.mem_of_mem_take) h1, by simpa [okA] using w1⟩, okA_sub (fun _ => List.mem_of_mem_drop) h1⟩
        · rw [wtA_app, wtA_app]
          simp only [pyA, PyData.weightAll]
          omega
        · rw [dpA_app, dpA_app]
          have t1 := dpA_sub (ds := l) (es := l.take i2.toNat) fun _ => List.mem_of_mem_take
          have t2 := dpA_sub (ds := l) (es := l.drop (i2.toNat + 1)) fun _ => List.mem_of_mem_drop
          simp only [pyA, PyData.depthAll]
          omega
  | ins _ _ => have := hd.ok; simp [okD] at this
  | deck _ => have := hd.ok; simp [okD] at this
  | scr _ => have := hd.ok; simp [okD] at this
  | _ =>
    walk_at "kb"
    exact odd _ (by omega)
end
end K59

set_option Elab.async false
set_option linter.all false
set_option maxRecDepth 100000
set_option maxHeartbeats 2000000
namespace K59
open PySem PySem.Spec L2 DL
local macro_rules | `(tactic| walk_at "se") => `(tactic| first | with_reducible exact se_0 | ((with_reducible refine' se_s ?h); (case h => walk_at "se")))
local macro_rules | `(tactic| walk_at "wp") => `(tactic| first | with_reducible exact wipe_nil | ((with_reducible refine' wipe_cons ?h1 ?h2); (case h1 => walk_at "wp"); (case h2 => walk_at "se")))
local macro_rules | `(tactic| walk_at "d1") => `(tactic| first
  | ((with_reducible refine' ed_var ?h ?_); (case h => rfl)) | with_reducible refine' ed_op ?_ | with_reducible refine' ed_int ?_ | with_reducible refine' ed_str ?_
  | with_reducible refine' sd_seq ?_ | with_reducible refine' sd_if ?_ | with_reducible refine' sd_asgN ?_ | ((with_reducible refine' env_mk ?h ?_); (case h => walk_at "se")) | with_reducible refine' sd_ret ?_ | with_reducible refine' sd_next ?_ | with_reducible refine' sd_retN ?_
  | with_reducible refine' td_tst ?_ | with_reducible refine' td_b ?_ | with_reducible refine' td_tru ?_ | with_reducible refine' tru_b ?_ | with_reducible refine' tru_i ?_ | with_reducible refine' tru_l ?_ | with_reducible refine' tru_t ?_ | with_reducible refine' tru_n ?_ | with_reducible refine' td_not ?_ | with_reducible refine' td_and ?_ | with_reducible refine' td_or ?_ | with_reducible refine' td_yes ?_
  | with_reducible refine' isBl_mk ?_
  | with_reducible refine' ed_bl ?_ | with_reducible refine' ed_non ?_
  | with_reducible refine' ed_un ?_ | with_reducible refine' ed_if ?_ | with_reducible refine' ed_and ?_ | with_reducible refine' ed_or ?_ | with_reducible refine' ed_not ?_
  | with_reducible refine' ed_tup ?_ | with_reducible refine' ed_lst ?_ | with_reducible refine' ad_cons ?_ | with_reducible refine' ad_nil ?_ | ((with_reducible refine' ed_is2 ?h ?_); (case h => decide)) | ((with_reducible refine' is_mk (b := true) ?h ?_); (case h => rfl)) | ((with_reducible refine' is_mk (b := false) ?h ?_); (case h => rfl)) | with_reducible refine' ite_t ?_ | with_reducible refine' ite_f ?_ | with_reducible refine' ite_nt ?_ | with_reducible refine' ite_nf ?_ | with_reducible refine' ed_callB ?_ | with_reducible refine' ed_call ?_
  | with_reducible refine' oa_i ?_ | with_reducible refine' os_i ?_ | with_reducible refine' ud_neg ?_ | with_reducible refine' od_cmp ?_ | with_reducible refine' cd_int ?_
  | ((with_reducible refine' od_is ?h ?_); (case h => decide +kernel)) | ((with_reducible refine' od_nis ?h ?_); (case h => decide +kernel))
  | with_reducible refine' ow_s ?_ | with_reducible refine' ow_i ?_ | with_reducible refine' ow_b ?_ | with_reducible refine' ow_e ?_ | with_reducible refine' ow_z ?_ | with_reducible refine' nv_s ?_ | with_reducible refine' nv_i ?_ | with_reducible refine' nv_bb ?_
  | ((with_reducible refine' od_ixt ?h ?_); (case h => rfl)) | ((with_reducible refine' od_ixl ?h ?_); (case h => rfl)) | ((with_reducible refine' ix_s ?h1 ?h2 ?_); (case h1 => (refine Nat.le_of_ble_eq_true ?_; rfl)); (case h2 => rfl))
  | with_reducible refine' ed_sl ?_ | with_reducible refine' pd_none ?_ | with_reducible refine' pd_some ?_ | with_reducible refine' pd_int ?_ | with_reducible refine' sl_scr ?_ | with_reducible refine' sl_lst ?_ | with_reducible refine' sl_tup ?_ | with_reducible refine' sl_str ?_ ?_
  | with_reducible refine' ed_revA ?_ | with_reducible refine' rv_lst ?_ | with_reducible refine' rv_tup ?_ | with_reducible refine' cd_listL ?_ | with_reducible refine' cd_listT ?_ | with_reducible refine' cd_sum ?_ | with_reducible refine' cd_all ?_
  | with_reducible refine' ed_disp2 ?_ | with_reducible refine' ppd_nil ?_ | with_reducible refine' ppd_cons ?_ | with_reducible refine' key_s ?_ | with_reducible refine' key_i ?_ | with_reducible refine' ed_dget ?_ | ((with_reducible refine' dget_mk ?h1 ?h2 ?_); (case h1 => rfl); (case h2 => rfl)) | ((with_reducible refine' disp_same ?h1 ?h2 ?_); (case h1 => (refine Nat.le_of_ble_eq_true ?_; rfl)); (case h2 => rfl)) | ((with_reducible refine' disp_mk ?h1 ?h2 ?_); (case h1 => (refine Nat.le_of_ble_eq_true ?_; rfl)); (case h2 => rfl)) | with_reducible refine' ex_lst ?_ | with_reducible refine' ex_tup ?_ | with_reducible refine' ex_str ?_ | with_reducible refine' ed_join2 ?_ | ((with_reducible refine' join_mk ?h1 ?h2 ?h3 ?_); (case h1 => rfl); (case h2 => (refine Nat.le_of_ble_eq_true ?_; rfl)); (case h3 => rfl)) | with_reducible refine' ed_lcW ?_ | ((with_reducible refine' wipe_mk ?h ?_); (case h => walk_at "wp")) | with_reducible refine' sd_forA ?_ | with_reducible refine' sd_asgA ?_ | with_reducible refine' wd_strU ?_ | with_reducible refine' wd_rangeL ?_ | ((with_reducible refine' rng_mk (items := [.int 0, .int 1]) ?h1 ?h2 ?_); (case h1 => decide); (case h2 => rfl)) | ((with_reducible refine' rng_mk (items := [.int 0, .int 1, .int 2]) ?h1 ?h2 ?_); (case h1 => decide); (case h2 => rfl)) | ((with_reducible refine' rng_mk (items := [.int 0, .int 1, .int 2, .int 3]) ?h1 ?h2 ?_); (case h1 => decide); (case h2 => rfl)) | ((with_reducible refine' rng_mk (items := [.int 0, .int 1, .int 2, .int 3, .int 4]) ?h1 ?h2 ?_); (case h1 => decide); (case h2 => rfl)) | ((with_reducible refine' rng_mk (items := [.int 0, .int 1, .int 2, .int 3, .int 4, .int 5]) ?h1 ?h2 ?_); (case h1 => decide); (case h2 => rfl)) | with_reducible refine' wd_list ?_ | with_reducible refine' wd_tup ?_ | with_reducible refine' lcW_nil ?_ | with_reducible refine' lcW_consY ?_ | with_reducible refine' lcW_cons ?_ | with_reducible refine' forU_nil ?_ | with_reducible refine' forU_cons ?_
  | with_reducible refine' sd_parN ?_ | with_reducible refine' sd_par3N ?_ | with_reducible refine' par2_mk ?_ | with_reducible refine' par3_mk ?_
  | ((with_reducible refine' gd_nameN ?h ?_); (case h => decide)) | with_reducible refine' gds_cons ?_ | with_reducible refine' gds_nil ?_ | ((with_reducible refine' gd_tup ?h ?_); (case h => rfl)) | ((with_reducible refine' gd_unlU ?h ?_); (case h => rfl))
  | ((with_reducible refine' sz_ok ?h ?_); (case h => (refine Nat.le_of_ble_eq_true ?_; rfl))) | fail)
local macro_rules | `(tactic| walk_at "d") => `(tactic| repeat walk_at "d1")
local macro_rules | `(tactic| walk_at "ds") => `(tactic| repeat' (first | walk_at "d1" | with_reducible refine' dite2 (fun _ => ?_) (fun _ => ?_)))
local macro_rules | `(tactic| walk_at "dm") => `(tactic| repeat' (first | with_reducible refine' sd_retL ?_ | walk_at "d1" | with_reducible refine' om_mul (cm_r ?_ ?_) (fun _ _ => ?_) | with_reducible refine' om_any ?_ (fun _ _ _ => ?_) | with_reducible refine' of_div ?_ ?_ ?_ | ((with_reducible refine' op_lit ?h ?_); (case h => decide)) | ((with_reducible refine' sd_push ?h ?_); (case h => rfl)) | with_reducible refine' andN ?_ ?_ | with_reducible refine' dite2 (fun _ => ?_) (fun _ => ?_) | omega))
local macro_rules | `(tactic| walk_at "st") => `(tactic| simp only [startD, List.map_cons, List.map_nil, List.length_cons, List.length_nil, List.cons_append, List.nil_append, Nat.reduceAdd, Nat.reduceSub, List.replicate])

local macro_rules | `(tactic| walk_at "k") => `(tactic| repeat' (first | with_reducible refine' lc4 ?_ | with_reducible refine' od_we ?_ | with_reducible refine' od_wp ?_ | with_reducible refine' od_ws ?_ | with_reducible refine' od_ww ?_ | with_reducible refine' od_nw ?_ | walk_at "d1" | with_reducible refine' dite2 (fun _ => ?_) (fun _ => ?_)))
local macro_rules | `(tactic| walk_at "k2") => `(tactic| repeat' (first | with_reducible refine' kd1 ?_ | with_reducible refine' kd2 ?_ | with_reducible refine' kd3 ?_ | with_reducible refine' lc4 ?_ | with_reducible refine' od_we ?_ | with_reducible refine' od_wp ?_ | with_reducible refine' od_ws ?_ | with_reducible refine' od_ww ?_ | with_reducible refine' od_nw ?_ | walk_at "d1" | with_reducible refine' dite2 (fun _ => ?_) (fun _ => ?_)))
local macro_rules | `(tactic| walk_at "k3") => `(tactic| repeat' (first | with_reducible refine' lcW_nil ?_ | with_reducible refine' lcW_consY ?_ | with_reducible refine' lcW_consM ?_ ?_ | with_reducible refine' same1 ?_ | with_reducible exact ⟨rfl, rfl⟩ | with_reducible refine' lc4 ?_ | with_reducible refine' od_we ?_ | with_reducible refine' od_wp ?_ | with_reducible refine' od_ws ?_ | with_reducible refine' od_ww ?_ | with_reducible refine' od_nw ?_ | walk_at "d1" | fail))
local macro_rules | `(tactic| walk_at "kw") => `(tactic| repeat' (first | ((with_reducible refine' td_whole ?h1 ?h2 ?_); (case h1 => rfl); (case h2 => assumption)) | walk_at "d1" | with_reducible refine' dite2 (fun _ => ?_) (fun _ => ?_) | fail))
section
variable {c : Cn} {n : Nat} {env : DL.Env}
theorem dta_kw {o : {α : Type} → List α → List α} (ho : ∀ {wd : Wd} {B : Addr → Prop} {K : PySem.W.Frag} {H : Hp} {us : List V} {es : List Dv}, DtA wd B K H us es → DtA wd B K H (o us) (o es)) {wd : Wd} {B : Addr → Prop} {K : PySem.W.Frag} {H : Hp} {vs us : List V} {ds es : List Dv} (h : DtA wd B K H vs ds) (h2 : DtA wd B K H us es) : DtA wd B K H (kwG o vs us) (kwG o ds es) := by
  cases h with
  | nil => exact ho h2
  | cons _ _ => exact .nil
theorem ek_im {tk : TA} {R : Nat → Dv → Prop} (h : AD c tk n env fun n2 es => C_is_motion n2 es R) : ED c (tCallK (spD c.K C_is_motion) gV_is_motion_thing E0 tNil tk) n env R := ed_callK (gD := kwG id) (dta_kw (o := id) id) (ad_nil h)
theorem ek_bo {tk : TA} {R : Nat → Dv → Prop} (h : AD c tk n env fun n2 es => C_back_of n2 es R) : ED c (tCallK (spD c.K C_back_of) gV_back_of_motion E0 tNil tk) n env R := ed_callK (gD := kwG id) (dta_kw (o := id) id) (ad_nil h)
theorem ek_bh {tk : TA} {R : Nat → Dv → Prop} (h : AD c tk n env fun n2 es => ∃ es', es.reverse = es' ∧ C_behind n2 es' R) : ED c (tCallK (spD c.K C_behind) gV_behind_other_one E0 tNil tk) n env R :=
  ed_callK (gD := kwG List.reverse) (dta_kw (o := List.reverse) dta_rev) (ad_nil (fun B2 H2 σ2 r2 Q2 q2 => h B2 H2 σ2 r2 Q2 fun vs H' n' ds r1 e1 h1 ⟨es', e, k2⟩ => q2 vs H' n' ds r1 e1 h1 (by show C_behind n' ds.reverse R; rw [e]; exact k2)))
variable {R : Dv → Prop}
theorem ow_same {a : Str} (k : R (.bl true)) : OD c (rEqW c.K false) (.str a) (.str a) R := ow_s (by rw [decide_eq_true rfl]; exact k)
theorem nv_same {a : Str} (k : R (.bl false)) : OD c (rEqV c.K true) (.str a) (.str a) R := nv_s (by rw [decide_eq_true rfl]; exact k)
end
theorem log2_1000 {i : Int} (h : i.natAbs ≤ 1000) : i.natAbs.log2 ≤ 9 := Nat.le_trans (log2_le h) (by decide)
theorem tx_ok (t : Tn) : PyData.strOk (tx t) = true ∧ (tx t).cps.size ≤ 4 := by rcases t with ⟨_ | _, _ | _, _ | _, _ | _⟩ <;> decide +kernel
theorem mo_ok {m : Mo} (h : small 1000 m) : Ok 30 1 (mo m) := by
  obtain ⟨h1, h2⟩ := h
  have l1 := log2_1000 h1
  have l2 := log2_1000 h2
  obtain ⟨t1, t2⟩ := tx_ok m.t
  have a1 : Ok 4 0 (.str (tx m.t)) := .str t1 t2
  have a2 : Ok 10 0 (.int m.d) := .int (by omega) (by omega)
  have a3 : Ok 10 0 (.int m.a) := .int (by omega) (by omega)
  have b1 := a1.wt
  have b2 := a2.wt
  have b3 := a3.wt
  have d1 := a1.dp
  have d2 := a2.dp
  have d3 := a3.dp
  refine .tup ?_ ?_ ?_
  · simp only [okA, Bool.and_eq_true]
    exact ⟨a1.ok, a2.ok, a3.ok, trivial⟩
  · simp only [pyA, PyData.weightAll]
    omega
  · simp only [pyA, PyData.depthAll]
    omega
theorem lst2_ok {m k : Nat} {d : Dv} (h : Ok m k d) : Ok (2 * m + 2) (k + 1) (.lst [d, d]) := by
  have h1 := h.ok
  have h2 := h.wt
  have h3 := h.dp
  refine .lst ?_ ?_ ?_
  · simp only [okA, Bool.and_eq_true]
    exact ⟨h1, h1, trivial⟩
  · simp only [pyA, PyData.weightAll]
    omega
  · simp only [pyA, PyData.depthAll]
    omega
theorem small_more {a b : Nat} {m : Mo} (h : small a m) (l : a ≤ b) : small b m := ⟨Nat.le_trans h.1 l, Nat.le_trans h.2 l⟩
theorem mo_plain (m : Mo) : DL.plain (mo m) = true := rfl
theorem mo_sh (m : Mo) : SeqAt.shaped (py (mo m)) = true := by
  have h := (tx_ok m.t).1
  unfold SeqAt.shaped mo
  simp only [py, pyA, PyData.canLay0, PyData.canLayAll0, PyData.depth, PyData.depthAll, h]
  decide
theorem spot_sh (s : Sp0) : SeqAt.shaped (py (spot s)) = true := by
  obtain ⟨k, i⟩ := s
  have h : PyData.strOk (kd k) = true := by cases k <;> decide +kernel
  unfold SeqAt.shaped spot
  simp only [py, pyA, PyData.canLay0, PyData.canLayAll0, PyData.depth, PyData.depthAll, h]
  decide
theorem mo_eqv (m : Mo) : PyData.eqv (py (mo m)) (py (mo m)) = true := by simp [mo, py, pyA, PyData.eqv, PyData.eqvAll]
theorem spot_eqv (s : Sp0) : PyData.eqv (py (spot s)) (py (spot s)) = true := by simp [spot, py, pyA, PyData.eqv, PyData.eqvAll]
theorem mo_mot (m : Mo) : motD (mo m) = true := by
  show (turnS (tx m.t) && (true && true)) = true
  rw [turn_tx]
  rfl
section
variable {c : Cn} {n : Nat} {a b : Mo} {i : Int} {s : Sp0}
theorem ledE {R : Nat → Dv → Prop} (k : R n (spot (led a ⟨true, i⟩))) : C__law_led n [mo a, .tup [.str "end", .int i]] R := ⟨a, ⟨true, i⟩, rfl, k⟩
theorem ledP {R : Nat → Dv → Prop} (k : R n (spot (led a ⟨false, i⟩))) : C__law_led n [mo a, .tup [.str "pick", .int i]] R := ⟨a, ⟨false, i⟩, rfl, k⟩
theorem ledS {R : Nat → Dv → Prop} (k : R n (spot (led a s))) : C__law_led n [mo a, spot s] R := ⟨a, s, rfl, k⟩
theorem nv_led {R : Dv → Prop} (k : R (.bl false)) : OD c (rEqV c.K true) (spot (led (beh a b) s)) (spot (led b (led a s))) R := by
  rw [led_beh]
  refine nv_t ⟨rfl, rfl, spot_sh _, spot_sh _⟩ ?_
  rw [spot_eqv]
  exact k
end
local macro_rules | `(tactic| walk_at "kr") => `(tactic| repeat' (first | with_reducible refine' ledE ?_ | with_reducible refine' ledP ?_ | with_reducible refine' ledS ?_ | with_reducible refine' nv_led ?_ | with_reducible refine' ek_im ?_ | with_reducible refine' ek_bo ?_ | with_reducible refine' ek_bh ?_ | with_reducible refine' ow_same ?_ | with_reducible refine' nv_same ?_ | walk_at "d1" | fail))
section
variable {c : Cn} {n : Nat} {ds : List Dv} {R : Nat → Dv → Prop}
theorem w__law_one_right (hC : C__law_one_right n ds R) : SD c (t__law_one_right c.K) n (startD 3 ds) { nx := fun n _ => R n .non, rt := R } := by
  obtain ⟨d, rfl, hd, hR⟩ := hC
  unfold t__law_one_right
  walk_at "st"
  walk_at "kr"
  refine cd_reprO hd (by decide) (by decide) ?_
  walk_at "kr"
  refine ⟨d, rfl, hd, ?_⟩
  walk_at "kr"
  refine ⟨d, rfl, hd, ?_⟩
  walk_at "kr"
  refine ⟨d, rfl, hd, ?_⟩
  walk_at "kr"
  refine cd_reprO (lst2_ok (.bl (m := 1) (k := 0))) (by decide) (by decide) ?_
  walk_at "kr"
  refine cd_reprO (lst2_ok (.bl (m := 1) (k := 0))) (by decide) (by decide) ?_
  walk_at "kr"
  refine cd_reprO hd (by decide) (by decide) ?_
  walk_at "kr"
  exact hR
theorem w__law_two_right (hC : C__law_two_right n ds R) : SD c (t__law_two_right c.K) n (startD 5 ds) { nx := fun n _ => R n .non, rt := R } := by
  obtain ⟨a, b, rfl, ha, hb, hR⟩ := hC
  have ok := lst2_ok (mo_ok (small_more (small_beh ha hb) (by decide)))
  unfold t__law_two_right
  walk_at "st"
  walk_at "kr"
  refine ⟨a, b, rfl, ?_⟩
  walk_at "kr"
  refine ⟨a, b, rfl, ?_⟩
  walk_at "kr"
  refine ⟨_, rfl, a, b, rfl, ?_⟩
  walk_at "kr"
  refine cd_reprO ok (by decide) (by decide) ?_
  walk_at "kr"
  refine cd_reprO ok (by decide) (by decide) ?_
  walk_at "kr"
  exact hR
theorem w__law_back_right (hC : C__law_back_right n ds R) : SD c (t__law_back_right c.K) n (startD 2 ds) { nx := fun n _ => R n .non, rt := R } := by
  obtain ⟨a, rfl, ha, hR⟩ := hC
  have ok := mo_ok (small_more (small_back ha) (by decide))
  unfold t__law_back_right
  walk_at "st"
  walk_at "kr"
  refine ⟨a, rfl, ?_⟩
  walk_at "kr"
  refine ⟨a, rfl, ?_⟩
  walk_at "kr"
  refine cd_reprO ok (by decide) (by decide) ?_
  walk_at "kr"
  refine cd_reprO ok (by decide) (by decide) ?_
  walk_at "kr"
  refine ⟨_, rfl, ok.more (by decide) (by decide), ?_⟩
  rw [mo_mot]
  walk_at "kr"
  refine ⟨_, rfl, ?_⟩
  rw [back_back]
  walk_at "kr"
  refine nv_t ⟨rfl, rfl, mo_sh _, mo_sh _⟩ ?_
  rw [mo_eqv]
  walk_at "kr"
  refine ⟨_, _, rfl, ?_⟩
  walk_at "kr"
  refine ⟨_, _, rfl, ?_⟩
  walk_at "kr"
  refine ⟨_, _, rfl, ?_⟩
  rw [beh_back, back_beh]
  walk_at "kr"
  refine od_rep (n := 3) (by decide) (by show 1 * 3 ≤ sizeLine; decide) ?_
  rw [show (List.replicate 3 [Dv.tup [Dv.str "", Dv.int 0, Dv.int 0]]).flatten = [mo one0, mo one0, mo one0] from by rw [mo_one0]; rfl]
  have h := mo_sh one0
  have h3 : SeqAt.shaped (py (.lst [mo one0, mo one0, mo one0])) = true := by rw [mo_one0]; decide +kernel
  refine ow_t ⟨rfl, rfl, h3, h3⟩ ?_
  have he : PyData.eqv (py (.lst [mo one0, mo one0, mo one0])) (py (.lst [mo one0, mo one0, mo one0])) = true := by
    have := mo_eqv one0
    simp only [py, pyA, PyData.eqv, PyData.eqvAll] at this ⊢
    simp [mo, py, pyA, PyData.eqv, PyData.eqvAll]
  rw [he]
  exact hR
end
end K59

set_option Elab.async false
set_option linter.all false
set_option maxRecDepth 100000
set_option maxHeartbeats 2000000
namespace K59
open PySem PySem.Spec L2 DL
local macro_rules | `(tactic| walk_at "se") => `(tactic| first | with_reducible exact se_0 | ((with_reducible refine' se_s ?h); (case h => walk_at "se")))
local macro_rules | `(tactic| walk_at "wp") => `(tactic| first | with_reducible exact wipe_nil | ((with_reducible refine' wipe_cons ?h1 ?h2); (case h1 => walk_at "wp"); (case h2 => walk_at "se")))
local macro_rules | `(tactic| walk_at "d1") => `(tactic| first
  | ((with_reducible refine' ed_var ?h ?_); (case h => rfl)) | with_reducible refine' ed_op ?_ | with_reducible refine' ed_int ?_ | with_reducible refine' ed_str ?_
  | with_reducible refine' sd_seq ?_ | with_reducible refine' sd_if ?_ | with_reducible refine' sd_asgN ?_ | ((with_reducible refine' env_mk ?h ?_); (case h => walk_at "se")) | with_reducible refine' sd_ret ?_ | with_reducible refine' sd_next ?_ | with_reducible refine' sd_retN ?_
  | with_reducible refine' td_tst ?_ | with_reducible refine' td_b ?_ | with_reducible refine' td_tru ?_ | with_reducible refine' tru_b ?_ | with_reducible refine' tru_i ?_ | with_reducible refine' tru_l ?_ | with_reducible refine' tru_t ?_ | with_reducible refine' tru_n ?_ | with_reducible refine' td_not ?_ | with_reducible refine' td_and ?_ | with_reducible refine' td_or ?_ | with_reducible refine' td_yes ?_
  | with_reducible refine' isBl_mk ?_
  | with_reducible refine' ed_bl ?_ | with_reducible refine' ed_non ?_
  | with_reducible refine' ed_un ?_ | with_reducible refine' ed_if ?_ | with_reducible refine' ed_and ?_ | with_reducible refine' ed_or ?_ | with_reducible refine' ed_not ?_
  | with_reducible refine' ed_tup ?_ | with_reducible refine' ed_lst ?_ | with_reducible refine' ad_cons ?_ | with_reducible refine' ad_nil ?_ | ((with_reducible refine' ed_is2 ?h ?_); (case h => decide)) | ((with_reducible refine' is_mk (b := true) ?h ?_); (case h => rfl)) | ((with_reducible refine' is_mk (b := false) ?h ?_); (case h => rfl)) | with_reducible refine' ite_t ?_ | with_reducible refine' ite_f ?_ | with_reducible refine' ite_nt ?_ | with_reducible refine' ite_nf ?_ | with_reducible refine' ed_callB ?_ | with_reducible refine' ed_call ?_
  | with_reducible refine' oa_i ?_ | with_reducible refine' os_i ?_ | with_reducible refine' ud_neg ?_ | with_reducible refine' od_cmp ?_ | with_reducible refine' cd_int ?_
  | ((with_reducible refine' od_is ?h ?_); (case h => decide +kernel)) | ((with_reducible refine' od_nis ?h ?_); (case h => decide +kernel))
  | with_reducible refine' ow_s ?_ | with_reducible refine' ow_i ?_ | with_reducible refine' ow_b ?_ | with_reducible refine' ow_e ?_ | with_reducible refine' ow_z ?_ | with_reducible refine' nv_s ?_ | with_reducible refine' nv_i ?_ | with_reducible refine' nv_bb ?_
  | ((with_reducible refine' od_ixt ?h ?_); (case h => rfl)) | ((with_reducible refine' od_ixl ?h ?_); (case h => rfl)) | ((with_reducible refine' ix_s ?h1 ?h2 ?_); (case h1 => (refine Nat.le_of_ble_eq_true ?_; rfl)); (case h2 => rfl))
  | with_reducible refine' ed_sl ?_ | with_reducible refine' pd_none ?_ | with_reducible refine' pd_some ?_ | with_reducible refine' pd_int ?_ | with_reducible refine' sl_scr ?_ | with_reducible refine' sl_lst ?_ | with_reducible refine' sl_tup ?_ | with_reducible refine' sl_str ?_ ?_
  | with_reducible refine' ed_revA ?_ | with_reducible refine' rv_lst ?_ | with_reducible refine' rv_tup ?_ | with_reducible refine' cd_listL ?_ | with_reducible refine' cd_listT ?_ | with_reducible refine' cd_sum ?_ | with_reducible refine' cd_all ?_
  | with_reducible refine' ed_disp2 ?_ | with_reducible refine' ppd_nil ?_ | with_reducible refine' ppd_cons ?_ | with_reducible refine' key_s ?_ | with_reducible refine' key_i ?_ | with_reducible refine' ed_dget ?_ | ((with_reducible refine' dget_mk ?h1 ?h2 ?_); (case h1 => rfl); (case h2 => rfl)) | ((with_reducible refine' disp_same ?h1 ?h2 ?_); (case h1 => (refine Nat.le_of_ble_eq_true ?_; rfl)); (case h2 => rfl)) | ((with_reducible refine' disp_mk ?h1 ?h2 ?_); (case h1 => (refine Nat.le_of_ble_eq_true ?_; rfl)); (case h2 => rfl)) | with_reducible refine' ex_lst ?_ | with_reducible refine' ex_tup ?_ | with_reducible refine' ex_str ?_ | with_reducible refine' ed_join2 ?_ | ((with_reducible refine' join_mk ?h1 ?h2 ?h3 ?_); (case h1 => rfl); (case h2 => (refine Nat.le_of_ble_eq_true ?_; rfl)); (case h3 => rfl)) | with_reducible refine' ed_lcW ?_ | ((with_reducible refine' wipe_mk ?h ?_); (case h => walk_at "wp")) | with_reducible refine' sd_forA ?_ | with_reducible refine' sd_asgA ?_ | with_reducible refine' wd_strU ?_ | with_reducible refine' wd_rangeL ?_ | ((with_reducible refine' rng_mk (items := [.int 0, .int 1]) ?h1 ?h2 ?_); (case h1 => decide); (case h2 => rfl)) | ((with_reducible refine' rng_mk (items := [.int 0, .int 1, .int 2]) ?h1 ?h2 ?_); (case h1 => decide); (case h2 => rfl)) | ((with_reducible refine' rng_mk (items := [.int 0, .int 1, .int 2, .int 3]) ?h1 ?h2 ?_); (case h1 => decide); (case h2 => rfl)) | ((with_reducible refine' rng_mk (items := [.int 0, .int 1, .int 2, .int 3, .int 4]) ?h1 ?h2 ?_); (case h1 => decide); (case h2 => rfl)) | ((with_reducible refine' rng_mk (items := [.int 0, .int 1, .int 2, .int 3, .int 4, .int 5]) ?h1 ?h2 ?_); (case h1 => decide); (case h2 => rfl)) | with_reducible refine' wd_list ?_ | with_reducible refine' wd_tup ?_ | with_reducible refine' lcW_nil ?_ | with_reducible refine' lcW_consY ?_ | with_reducible refine' lcW_cons ?_ | with_reducible refine' forU_nil ?_ | with_reducible refine' forU_cons ?_
  | with_reducible refine' sd_parN ?_ | with_reducible refine' sd_par3N ?_ | with_reducible refine' par2_mk ?_ | with_reducible refine' par3_mk ?_
  | ((with_reducible refine' gd_nameN ?h ?_); (case h => decide)) | with_reducible refine' gds_cons ?_ | with_reducible refine' gds_nil ?_ | ((with_reducible refine' gd_tup ?h ?_); (case h => rfl)) | ((with_reducible refine' gd_unlU ?h ?_); (case h => rfl))
  | ((with_reducible refine' sz_ok ?h ?_); (case h => (refine Nat.le_of_ble_eq_true ?_; rfl))) | fail)
local macro_rules | `(tactic| walk_at "d") => `(tactic| repeat walk_at "d1")
local macro_rules | `(tactic| walk_at "ds") => `(tactic| repeat' (first | walk_at "d1" | with_reducible refine' dite2 (fun _ => ?_) (fun _ => ?_)))
local macro_rules | `(tactic| walk_at "dm") => `(tactic| repeat' (first | with_reducible refine' sd_retL ?_ | walk_at "d1" | with_reducible refine' om_mul (cm_r ?_ ?_) (fun _ _ => ?_) | with_reducible refine' om_any ?_ (fun _ _ _ => ?_) | with_reducible refine' of_div ?_ ?_ ?_ | ((with_reducible refine' op_lit ?h ?_); (case h => decide)) | ((with_reducible refine' sd_push ?h ?_); (case h => rfl)) | with_reducible refine' andN ?_ ?_ | with_reducible refine' dite2 (fun _ => ?_) (fun _ => ?_) | omega))
local macro_rules | `(tactic| walk_at "st") => `(tactic| simp only [startD, List.map_cons, List.map_nil, List.length_cons, List.length_nil, List.cons_append, List.nil_append, Nat.reduceAdd, Nat.reduceSub, List.replicate])

local macro_rules | `(tactic| walk_at "k") => `(tactic| repeat' (first | with_reducible refine' lc4 ?_ | with_reducible refine' od_we ?_ | with_reducible refine' od_wp ?_ | with_reducible refine' od_ws ?_ | with_reducible refine' od_ww ?_ | with_reducible refine' od_nw ?_ | walk_at "d1" | with_reducible refine' dite2 (fun _ => ?_) (fun _ => ?_)))
local macro_rules | `(tactic| walk_at "k2") => `(tactic| repeat' (first | with_reducible refine' kd1 ?_ | with_reducible refine' kd2 ?_ | with_reducible refine' kd3 ?_ | with_reducible refine' lc4 ?_ | with_reducible refine' od_we ?_ | with_reducible refine' od_wp ?_ | with_reducible refine' od_ws ?_ | with_reducible refine' od_ww ?_ | with_reducible refine' od_nw ?_ | walk_at "d1" | with_reducible refine' dite2 (fun _ => ?_) (fun _ => ?_)))
local macro_rules | `(tactic| walk_at "k3") => `(tactic| repeat' (first | with_reducible refine' lcW_nil ?_ | with_reducible refine' lcW_consY ?_ | with_reducible refine' lcW_consM ?_ ?_ | with_reducible refine' same1 ?_ | with_reducible exact ⟨rfl, rfl⟩ | with_reducible refine' lc4 ?_ | with_reducible refine' od_we ?_ | with_reducible refine' od_wp ?_ | with_reducible refine' od_ws ?_ | with_reducible refine' od_ww ?_ | with_reducible refine' od_nw ?_ | walk_at "d1" | fail))
local macro_rules | `(tactic| walk_at "kw") => `(tactic| repeat' (first | ((with_reducible refine' td_whole ?h1 ?h2 ?_); (case h1 => rfl); (case h2 => assumption)) | walk_at "d1" | with_reducible refine' dite2 (fun _ => ?_) (fun _ => ?_) | fail))
local macro_rules | `(tactic| walk_at "kr") => `(tactic| repeat' (first | with_reducible refine' ledE ?_ | with_reducible refine' ledP ?_ | with_reducible refine' ledS ?_ | with_reducible refine' nv_led ?_ | with_reducible refine' ek_im ?_ | with_reducible refine' ek_bo ?_ | with_reducible refine' ek_bh ?_ | with_reducible refine' ow_same ?_ | with_reducible refine' nv_same ?_ | walk_at "d1" | fail))
section
variable {c : Cn} {n : Nat} {env : DL.Env}
theorem forU_cnt {g : TG} {vs : List Nat} {tb : TS} {N : DN} {items : List Dv} (J : Nat → Nat → DL.Env → Prop) (h0 : J items.length n env) (step : ∀ d ∈ items, ∀ k n env, J (k + 1) n env → GD c g vs d env fun env2 => SD c tb n env2 { nx := J k, rt := N.rt, bk := N.nx, ct := J k }) (fin : ∀ n env, J 0 n env → N.nx n env) : ForU c g vs tb N items n env := by
  induction items generalizing n env with
  | nil => exact fin _ _ h0
  | cons d ds ih =>
    have ih' : ∀ n env, J ds.length n env → ForU c g vs tb N ds n env := fun n e h => ih h fun d hd => step d (List.mem_cons_of_mem _ hd)
    exact gd_mono (step d List.mem_cons_self _ n env h0) fun e2 h2 => sd_mono h2 (fun n e h => ih' n e h) (fun _ _ h => h) (fun _ _ h => h) (fun n e h => ih' n e h)
end
theorem nv_mo {c : Cn} {a b d : Mo} {R : Dv → Prop} (k : R (.bl false)) : OD c (rEqV c.K true) (mo (beh (beh a b) d)) (mo (beh a (beh b d))) R := by
  rw [beh_assoc]
  refine nv_t ⟨rfl, rfl, mo_sh _, mo_sh _⟩ ?_
  rw [mo_eqv]
  exact k
theorem nv_nil {c : Cn} {R : Dv → Prop} (k : R (.bl false)) : OD c (rEqV c.K true) (.lst []) (.lst []) R := nv_t ⟨rfl, rfl, rfl, rfl⟩ k
/-- all are right: nothing is kept -/
theorem all_right {c : Cn} {n : Nat} {env : DL.Env} {items : List Dv} {K : Nat → List Dv → Prop} (ho : ∀ d ∈ items, Ok 1000 50 d) (h8 : ∀ d, (List.set env 8 (some (.fz d)))[8]? = some (some (.fz d))) (k : K n []) :
    LcW c (gName 8) [8] (tNot (tB (tCall (spD c.K C__law_one_right) [] E0 (tCons (tVar 8) tNil)))) (tVar 8) env items n K := by
  refine lcW_map (fun _ => false) id (fun d hd => ?_) ?_
  · refine gd_name (by decide) ?_
    refine td_not (td_b (ed_call (ad_cons (ed_var (h8 d) (ad_nil ?_)))))
    exact ⟨d, rfl, ho d hd, rfl, rfl, fun z => nomatch z⟩
  · rw [show items.filter (fun _ => false) = [] from List.filter_eq_nil_iff.mpr (by simp)]
    exact k
local macro_rules | `(tactic| walk_at "kl") => `(tactic| repeat' (first | with_reducible refine' nv_mo ?_ | with_reducible refine' nv_nil ?_ | with_reducible refine' ed_dnew ?_ | ((with_reducible refine' op_lit ?h ?_); (case h => decide)) | walk_at "d1" | fail))
theorem w_law (K : PySem.W.Frag) : ∃ rest, t_law K = tSeq (tAsg (tCall (spD K C__law_deck) [] E0 (tCons (tVar 0) tNil)) (gName 1)) rest ∧ ∀ c : Cn, c.K = K →
    SD c rest 4000000 [none, some (.fz (.deck "blend")), none, none, none, none, none, none, none] { nx := fun _ _ => False, rt := fun _ d => d = .bl true } := by
  refine ⟨_, rfl, fun c hK => ?_⟩
  subst hK
  walk_at "d1"
  walk_at "d1"
  refine wd_range1 ?_
  walk_at "d1"
  walk_at "d1"
  walk_at "d1"
  refine ⟨5, rfl, by decide, by decide, forU_cnt (fun k n e => 1000 * k ≤ n ∧ ∃ z2 z3 z4 z5 z6, e = [none, some (.fz (.deck "blend")), z2, z3, z4, z5, z6, none, none]) ⟨by show 1000 * 5 ≤ _; decide, _, _, _, _, _, rfl⟩ ?_ ?_⟩
  · rintro d hd k n e ⟨hn, z2, z3, z4, z5, z6, rfl⟩
    walk_at "kl"
    refine ⟨rfl, by omega, fun a ha => ?_⟩
    walk_at "kl"
    refine ⟨rfl, by omega, fun b hb => ?_⟩
    walk_at "kl"
    refine ⟨rfl, by omega, fun d3 hd3 => ?_⟩
    walk_at "kl"
    refine ⟨a, b, rfl, ha, hb, ?_⟩
    walk_at "kl"
    refine ⟨d3, rfl, hd3, ?_⟩
    walk_at "kl"
    refine ⟨a, b, rfl, ?_⟩
    walk_at "kl"
    refine ⟨beh a b, d3, rfl, ?_⟩
    walk_at "kl"
    refine ⟨b, d3, rfl, ?_⟩
    walk_at "kl"
    refine ⟨a, beh b d3, rfl, ?_⟩
    walk_at "kl"
    have oa := mo_ok (small_more ha (by decide))
    have ob := mo_ok (small_more hb (by decide))
    have od := mo_ok (small_more hd3 (by decide))
    refine ⟨30, 1, mo a, rfl, oa, by decide, by decide, by decide, by omega, fun d' hd' => ?_⟩
    walk_at "kl"
    refine ⟨_, _, d', rfl, hd', by decide, by decide, by decide, by omega, fun d'' hd'' => ?_⟩
    walk_at "kl"
    refine cd_listT ?_
    walk_at "kl"
    refine oA (od_addt (ds := [.str (tx d3.t), .int d3.d, .int d3.a]) (by show 4 ≤ sizeLine; decide) ?_)
    walk_at "kl"
    refine od_ixt (ds := [.str (tx a.t), .int a.d, .int a.a]) rfl ?_
    walk_at "kl"
    have tl : (tx a.t).length ≤ 4 := (tx_ok a.t).2
    refine oA (od_adds (by show _ + 1 ≤ _; rw [sizeLine_eq]; omega) ?_)
    walk_at "kl"
    refine sl_tup (ds := [.str (tx a.t), .int a.d, .int a.a]) ?_
    refine oA (od_addt (by show 3 ≤ sizeLine; decide) ?_)
    walk_at "kl"
    refine oA (od_addl (by show 8 ≤ sizeLine; decide) ?_)
    walk_at "kl"
    refine all_right ?_ (fun _ => rfl) ?_
    · have al : (tx a.t ++ Str.ofString "e").cps.size ≤ 5 := by
        show ((tx a.t).cps ++ (Str.ofString "e").cps).size ≤ 5
        rw [Array.size_append]
        have : (tx a.t).cps.size ≤ 4 := tl
        show _ + 1 ≤ 5
        omega
      have o1 : Ok 5 0 (.str (tx a.t ++ Str.ofString "e")) := .str (strOk_app (tx_ok _).1 (strOk_lit _)) al
      intro x hx
      simp only [List.mem_append, List.mem_cons, List.not_mem_nil, or_false] at hx
      rcases hx with (rfl | rfl | rfl) | rfl | rfl | rfl | rfl | rfl
      · exact oa.more (by decide) (by decide)
      · exact ob.more (by decide) (by decide)
      · exact od.more (by decide) (by decide)
      · exact hd'.more (by decide) (by decide)
      · exact hd''.more (by decide) (by decide)
      · exact (show Ok 30 1 (.lst _) from ob.listT).more (by decide) (by decide)
      · exact (Ok.appT (ds := [.str (tx d3.t), .int d3.d, .int d3.a]) od (okB_ok (m := 10) (k := 1) (by decide +kernel))).more (by decide) (by decide)
      · exact (Ok.appT o1.one (Ok.cutT (ds := [.str (tx a.t), .int a.d, .int a.a]) oa _ _)).more (by decide) (by decide)
    walk_at "kl"
    exact ⟨by omega, _, _, _, _, _, rfl⟩
  · rintro n e ⟨_, z2, z3, z4, z5, z6, rfl⟩
    walk_at "kl"
    refine oA (od_addl (by show 17 ≤ sizeLine; decide) ?_)
    walk_at "kl"
    refine all_right (okB_all (by decide +kernel)) (fun _ => rfl) ?_
    walk_at "kl"
    rfl
end K59

set_option Elab.async false
set_option linter.all false
set_option maxRecDepth 100000
set_option maxHeartbeats 4000000
namespace K59
open PySem PySem.Spec L2 DL
section
variable {P : Program} {w : World} {K : PySem.W.Frag} {mg : Str → Option Value} {base : Heap}
theorem no__law_bent {n : Nat} {ds : List Dv} {R : Nat → Dv → Prop} (h : C_bentK 0 n ds R) : False := by
  obtain ⟨_, _, _, _, _, _, hk, _⟩ := h
  omega
theorem vals_kw {o : {α : Type} → List α → List α} (ho : ∀ {us : List V} {ws : List Value}, Vals us ws → Vals (o us) (o ws)) {vs : List V} {us : List Value} {zs : List V} {ws : List Value} (h : Vals vs us) (h2 : Vals zs ws) : Vals (kwG o vs zs) (kwG o us ws) := by
  cases h with
  | nil => exact ho h2
  | cons _ _ => exact .nil
theorem vals_rev : ∀ {us : List V} {ws : List Value}, Vals us ws → Vals us.reverse ws.reverse := by
  intro us ws h
  have app : ∀ {a : List V} {b : List Value} {c : List V} {d : List Value}, Vals a b → Vals c d → Vals (a ++ c) (b ++ d) := by
    intro a b c d h1 h2
    induction h1 with
    | nil => exact h2
    | cons r _ ih => exact .cons r ih
  induction h with
  | nil => exact .nil
  | cons r _ ih => rw [List.reverse_cons, List.reverse_cons]; exact app ih (.cons r .nil)
theorem mkb_is_motion_thing {f : Addr} {fd : FuncData} (F : Fun K "is_motion" "is_motion" s_is_motion f fd) : KBinds K fd ["thing"] ["thing"] g_is_motion_thing gV_is_motion_thing :=
  kbinds_of F (fun _ _ _ _ _ _ us ws hl => match us, ws, hl with | [], [_], _ => rfl) (vals_kw (o := id) id)
theorem mkb_back_of_motion {f : Addr} {fd : FuncData} (F : Fun K "back_of" "back_of" s_back_of f fd) : KBinds K fd ["motion"] ["motion"] g_back_of_motion gV_back_of_motion :=
  kbinds_of F (fun _ _ _ _ _ _ us ws hl => match us, ws, hl with | [], [_], _ => rfl) (vals_kw (o := id) id)
theorem mkb_behind_other_one {f : Addr} {fd : FuncData} (F : Fun K "behind" "behind" s_behind f fd) : KBinds K fd ["one", "other"] ["other", "one"] g_behind_other_one gV_behind_other_one :=
  kbinds_of F (fun _ _ _ _ _ _ us ws hl => match us, ws, hl with | [], [_, _], _ => rfl | [], [], h => nomatch h | [], [_], h => nomatch h | [], _ :: _ :: _ :: _, h => by simp [g_behind_other_one, kwG] at h | _ :: _, _, h => nomatch h) (vals_kw (o := List.reverse) vals_rev)

theorem ok_is_whole {f : Addr} {fd : FuncData} (F : Fun K "is_whole" "is_whole" s_is_whole f fd) (T : Txt K mg) : FnG P w K mg base CX0 1 f fd ["thing"] (spD K C_is_whole) :=
  fnD F sc_is_whole (fun n ds R h => by first | (obtain ⟨rfl, _⟩ := h; rfl) | (obtain ⟨_, rfl, _⟩ := h; rfl) | (obtain ⟨_, _, rfl, _⟩ := h; rfl) | (obtain ⟨_, _, _, rfl, _⟩ := h; rfl)) fun cdv A outer s H E hg hr => ⟨t_is_whole K, d_is_whole T hg hr, fun n ds R hC c hK => by subst hK; exact w_is_whole hC⟩
theorem ok_is_turn {f : Addr} {fd : FuncData} (F : Fun K "is_turn" "is_turn" s_is_turn f fd) (T : Txt K mg) : FnG P w K mg base CX0 1 f fd ["thing"] (spD K C_is_turn) :=
  fnD F sc_is_turn (fun n ds R h => by first | (obtain ⟨rfl, _⟩ := h; rfl) | (obtain ⟨_, rfl, _⟩ := h; rfl) | (obtain ⟨_, _, rfl, _⟩ := h; rfl) | (obtain ⟨_, _, _, rfl, _⟩ := h; rfl)) fun cdv A outer s H E hg hr => ⟨t_is_turn K, d_is_turn T hg hr, fun n ds R hC c hK => by subst hK; exact w_is_turn hC⟩
theorem ok_is_motion {f : Addr} {fd : FuncData} (F : Fun K "is_motion" "is_motion" s_is_motion f fd) (T : Txt K mg) {f_is_turn : Addr} {fd_is_turn : FuncData} (D_is_turn : Df P w K mg base 1 "is_turn" ["thing"] C_is_turn f_is_turn fd_is_turn) {f_is_whole : Addr} {fd_is_whole : FuncData} (D_is_whole : Df P w K mg base 1 "is_whole" ["thing"] C_is_whole f_is_whole fd_is_whole) : FnG P w K mg base CX0 2 f fd ["thing"] (spD K C_is_motion) :=
  fnD F sc_is_motion (fun n ds R h => by first | (obtain ⟨rfl, _⟩ := h; rfl) | (obtain ⟨_, rfl, _⟩ := h; rfl) | (obtain ⟨_, _, rfl, _⟩ := h; rfl) | (obtain ⟨_, _, _, rfl, _⟩ := h; rfl)) fun cdv A outer s H E hg hr => ⟨t_is_motion K, d_is_motion T D_is_turn D_is_whole hg hr, fun n ds R hC c hK => by subst hK; exact w_is_motion hC⟩
theorem ok_turn_behind {f : Addr} {fd : FuncData} (F : Fun K "turn_behind" "turn_behind" s_turn_behind f fd) (T : Txt K mg) : FnG P w K mg base CX0 1 f fd ["turn", "later"] (spD K C_turn_behind) :=
  fnD F sc_turn_behind (fun n ds R h => by first | (obtain ⟨rfl, _⟩ := h; rfl) | (obtain ⟨_, rfl, _⟩ := h; rfl) | (obtain ⟨_, _, rfl, _⟩ := h; rfl) | (obtain ⟨_, _, _, rfl, _⟩ := h; rfl)) fun cdv A outer s H E hg hr => ⟨t_turn_behind K, d_turn_behind T hg hr, fun n ds R hC c hK => by subst hK; exact w_turn_behind hC⟩
theorem ok_behind {f : Addr} {fd : FuncData} (F : Fun K "behind" "behind" s_behind f fd) (T : Txt K mg) {f_turn_behind : Addr} {fd_turn_behind : FuncData} (D_turn_behind : Df P w K mg base 1 "turn_behind" ["turn", "later"] C_turn_behind f_turn_behind fd_turn_behind) : FnG P w K mg base CX0 2 f fd ["one", "other"] (spD K C_behind) :=
  fnD F sc_behind (fun n ds R h => by first | (obtain ⟨rfl, _⟩ := h; rfl) | (obtain ⟨_, rfl, _⟩ := h; rfl) | (obtain ⟨_, _, rfl, _⟩ := h; rfl) | (obtain ⟨_, _, _, rfl, _⟩ := h; rfl)) fun cdv A outer s H E hg hr => ⟨t_behind K, d_behind T D_turn_behind hg hr, fun n ds R hC c hK => by subst hK; exact w_behind hC⟩
theorem ok_back_of {f : Addr} {fd : FuncData} (F : Fun K "back_of" "back_of" s_back_of f fd) (T : Txt K mg) : FnG P w K mg base CX0 1 f fd ["motion"] (spD K C_back_of) :=
  fnD F sc_back_of (fun n ds R h => by first | (obtain ⟨rfl, _⟩ := h; rfl) | (obtain ⟨_, rfl, _⟩ := h; rfl) | (obtain ⟨_, _, rfl, _⟩ := h; rfl) | (obtain ⟨_, _, _, rfl, _⟩ := h; rfl)) fun cdv A outer s H E hg hr => ⟨t_back_of K, d_back_of T hg hr, fun n ds R hC c hK => by subst hK; exact w_back_of hC⟩
theorem ok__law_deck {f : Addr} {fd : FuncData} (F : Fun K "_law_deck" "_law_deck" s__law_deck f fd) (T : Txt K mg) : FnG P w K mg base CX0 1 f fd ["_law_script"] (spD K C__law_deck) :=
  fnD F sc__law_deck (fun n ds R h => by first | (obtain ⟨rfl, _⟩ := h; rfl) | (obtain ⟨_, rfl, _⟩ := h; rfl) | (obtain ⟨_, _, rfl, _⟩ := h; rfl) | (obtain ⟨_, _, _, rfl, _⟩ := h; rfl)) fun cdv A outer s H E hg hr => ⟨t__law_deck K, d__law_deck T hg hr, fun n ds R hC c hK => by subst hK; exact w__law_deck hC⟩
theorem ok__law_draw {f : Addr} {fd : FuncData} (F : Fun K "_law_draw" "_law_draw" s__law_draw f fd) (T : Txt K mg) : FnG P w K mg base CX0 1 f fd ["_law_deck_here", "_law_below"] (spD K C__law_draw) :=
  fnD F sc__law_draw (fun n ds R h => by first | (obtain ⟨rfl, _⟩ := h; rfl) | (obtain ⟨_, rfl, _⟩ := h; rfl) | (obtain ⟨_, _, rfl, _⟩ := h; rfl) | (obtain ⟨_, _, _, rfl, _⟩ := h; rfl)) fun cdv A outer s H E hg hr => ⟨t__law_draw K, d__law_draw T hg hr, fun n ds R hC c hK => by subst hK; exact w__law_draw hC⟩
theorem ok__law_pick {f : Addr} {fd : FuncData} (F : Fun K "_law_pick" "_law_pick" s__law_pick f fd) (T : Txt K mg) {f__law_draw : Addr} {fd__law_draw : FuncData} (D__law_draw : Df P w K mg base 1 "_law_draw" ["_law_deck_here", "_law_below"] C__law_draw f__law_draw fd__law_draw) : FnG P w K mg base CX0 2 f fd ["_law_deck_here", "_law_some"] (spD K C__law_pick) :=
  fnD F sc__law_pick (fun n ds R h => by first | (obtain ⟨rfl, _⟩ := h; rfl) | (obtain ⟨_, rfl, _⟩ := h; rfl) | (obtain ⟨_, _, rfl, _⟩ := h; rfl) | (obtain ⟨_, _, _, rfl, _⟩ := h; rfl)) fun cdv A outer s H E hg hr => ⟨t__law_pick K, d__law_pick T D__law_draw hg hr, fun n ds R hC c hK => by subst hK; exact w__law_pick hC⟩
theorem ok__law_led {f : Addr} {fd : FuncData} (F : Fun K "_law_led" "_law_led" s__law_led f fd) (T : Txt K mg) : FnG P w K mg base CX0 1 f fd ["_law_act", "_law_spot"] (spD K C__law_led) :=
  fnD F sc__law_led (fun n ds R h => by first | (obtain ⟨rfl, _⟩ := h; rfl) | (obtain ⟨_, rfl, _⟩ := h; rfl) | (obtain ⟨_, _, rfl, _⟩ := h; rfl) | (obtain ⟨_, _, _, rfl, _⟩ := h; rfl)) fun cdv A outer s H E hg hr => ⟨t__law_led K, d__law_led T hg hr, fun n ds R hC c hK => by subst hK; exact w__law_led hC⟩
theorem ok__law_behind {f : Addr} {fd : FuncData} (F : Fun K "_law_behind" "_law_behind" s__law_behind f fd) (T : Txt K mg) : FnG P w K mg base CX0 1 f fd ["_law_near", "_law_far"] (spD K C__law_behind) :=
  fnD F sc__law_behind (fun n ds R h => by first | (obtain ⟨rfl, _⟩ := h; rfl) | (obtain ⟨_, rfl, _⟩ := h; rfl) | (obtain ⟨_, _, rfl, _⟩ := h; rfl) | (obtain ⟨_, _, _, rfl, _⟩ := h; rfl)) fun cdv A outer s H E hg hr => ⟨t__law_behind K, d__law_behind T hg hr, fun n ds R hC c hK => by subst hK; exact w__law_behind hC⟩
theorem ok__law_turns {f : Addr} {fd : FuncData} (F : Fun K "_law_turns" "_law_turns" s__law_turns f fd) (T : Txt K mg) : FnG P w K mg base CX0 1 f fd [] (spD K C__law_turns) :=
  fnD F sc__law_turns (fun n ds R h => by first | (obtain ⟨rfl, _⟩ := h; rfl) | (obtain ⟨_, rfl, _⟩ := h; rfl) | (obtain ⟨_, _, rfl, _⟩ := h; rfl) | (obtain ⟨_, _, _, rfl, _⟩ := h; rfl)) fun cdv A outer s H E hg hr => ⟨t__law_turns K, d__law_turns T hg hr, fun n ds R hC c hK => by subst hK; exact w__law_turns hC⟩
theorem ok__law_motion {f : Addr} {fd : FuncData} (F : Fun K "_law_motion" "_law_motion" s__law_motion f fd) (T : Txt K mg) {f__law_draw : Addr} {fd__law_draw : FuncData} (D__law_draw : Df P w K mg base 1 "_law_draw" ["_law_deck_here", "_law_below"] C__law_draw f__law_draw fd__law_draw) {f__law_pick : Addr} {fd__law_pick : FuncData} (D__law_pick : Df P w K mg base 2 "_law_pick" ["_law_deck_here", "_law_some"] C__law_pick f__law_pick fd__law_pick) {f__law_turns : Addr} {fd__law_turns : FuncData} (D__law_turns : Df P w K mg base 1 "_law_turns" [] C__law_turns f__law_turns fd__law_turns) : FnG P w K mg base CX0 3 f fd ["_law_deck_here"] (spD K C__law_motion) :=
  fnD F sc__law_motion (fun n ds R h => by first | (obtain ⟨rfl, _⟩ := h; rfl) | (obtain ⟨_, rfl, _⟩ := h; rfl) | (obtain ⟨_, _, rfl, _⟩ := h; rfl) | (obtain ⟨_, _, _, rfl, _⟩ := h; rfl)) fun cdv A outer s H E hg hr => ⟨t__law_motion K, d__law_motion T D__law_draw D__law_pick D__law_turns hg hr, fun n ds R hC c hK => by subst hK; exact w__law_motion hC⟩
theorem ok__law_is_motion {f : Addr} {fd : FuncData} (F : Fun K "_law_is_motion" "_law_is_motion" s__law_is_motion f fd) (T : Txt K mg) {f__law_turns : Addr} {fd__law_turns : FuncData} (D__law_turns : Df P w K mg base 1 "_law_turns" [] C__law_turns f__law_turns fd__law_turns) : FnG P w K mg base CX0 2 f fd ["_law_it"] (spD K C__law_is_motion) :=
  fnD F sc__law_is_motion (fun n ds R h => by first | (obtain ⟨rfl, _⟩ := h; rfl) | (obtain ⟨_, rfl, _⟩ := h; rfl) | (obtain ⟨_, _, rfl, _⟩ := h; rfl) | (obtain ⟨_, _, _, rfl, _⟩ := h; rfl)) fun cdv A outer s H E hg hr => ⟨t__law_is_motion K, d__law_is_motion T D__law_turns hg hr, fun n ds R hC c hK => by subst hK; exact w__law_is_motion hC⟩
theorem ok__law_odd {f : Addr} {fd : FuncData} (F : Fun K "_law_odd" "_law_odd" s__law_odd f fd) (T : Txt K mg) {f__law_pick : Addr} {fd__law_pick : FuncData} (D__law_pick : Df P w K mg base 2 "_law_pick" ["_law_deck_here", "_law_some"] C__law_pick f__law_pick fd__law_pick) : FnG P w K mg base CX0 3 f fd ["_law_deck_here", "_law_it"] (spD K C__law_odd) :=
  fnD F sc__law_odd (fun n ds R h => by first | (obtain ⟨rfl, _⟩ := h; rfl) | (obtain ⟨_, rfl, _⟩ := h; rfl) | (obtain ⟨_, _, rfl, _⟩ := h; rfl) | (obtain ⟨_, _, _, rfl, _⟩ := h; rfl)) fun cdv A outer s H E hg hr => ⟨t__law_odd K, d__law_odd T D__law_pick hg hr, fun n ds R hC c hK => by subst hK; exact w__law_odd hC⟩
theorem okr__law_bent {f : Addr} {fd : FuncData} (F : Fun K "_law_bent" "_law_bent" s__law_bent f fd) (T : Txt K mg) (hm : mg "_law_bent" = some (.ref f)) (hb : Binds K fd ["_law_deck_here", "_law_it"] []) {f__law_draw : Addr} {fd__law_draw : FuncData} (D__law_draw : Df P w K mg base 1 "_law_draw" ["_law_deck_here", "_law_below"] C__law_draw f__law_draw fd__law_draw) {f__law_odd : Addr} {fd__law_odd : FuncData} (D__law_odd : Df P w K mg base 3 "_law_odd" ["_law_deck_here", "_law_it"] C__law_odd f__law_odd fd__law_odd) : ∀ j : Nat, FnG P w K mg base CX0 (3 + j) f fd ["_law_deck_here", "_law_it"] (spD K (C_bentK j))
  | 0 => fnG_no fun n ds R h => no__law_bent h
  | j + 1 => fnD F sc__law_bent (fun n ds R h => by first | (obtain ⟨rfl, _⟩ := h; rfl) | (obtain ⟨_, rfl, _⟩ := h; rfl) | (obtain ⟨_, _, rfl, _⟩ := h; rfl) | (obtain ⟨_, _, _, rfl, _⟩ := h; rfl)) fun cdv A outer s H E hg hr => ⟨t__law_bent K (C_bentK j), d__law_bent T D__law_draw D__law_odd (k := j) (Cr := C_bentK j) ⟨hm, F.kp, hb, okr__law_bent F T hm hb D__law_draw D__law_odd j⟩ hg hr, fun n ds R hC c hK => by subst hK; exact w__law_bent hC⟩
theorem ok__law_one_right {f : Addr} {fd : FuncData} (F : Fun K "_law_one_right" "_law_one_right" s__law_one_right f fd) (T : Txt K mg) {f__law_is_motion : Addr} {fd__law_is_motion : FuncData} (D__law_is_motion : Df P w K mg base 2 "_law_is_motion" ["_law_it"] C__law_is_motion f__law_is_motion fd__law_is_motion) {f_is_motion : Addr} {fd_is_motion : FuncData} (D_is_motion : Df P w K mg base 2 "is_motion" ["thing"] C_is_motion f_is_motion fd_is_motion) (kb_is_motion_thing : KBinds K fd_is_motion ["thing"] ["thing"] g_is_motion_thing gV_is_motion_thing) : FnG P w K mg base CX0 3 f fd ["_law_it"] (spD K C__law_one_right) :=
  fnD F sc__law_one_right (fun n ds R h => by first | (obtain ⟨rfl, _⟩ := h; rfl) | (obtain ⟨_, rfl, _⟩ := h; rfl) | (obtain ⟨_, _, rfl, _⟩ := h; rfl) | (obtain ⟨_, _, _, rfl, _⟩ := h; rfl)) fun cdv A outer s H E hg hr => ⟨t__law_one_right K, d__law_one_right T D__law_is_motion D_is_motion kb_is_motion_thing hg hr, fun n ds R hC c hK => by subst hK; exact w__law_one_right hC⟩
theorem ok__law_two_right {f : Addr} {fd : FuncData} (F : Fun K "_law_two_right" "_law_two_right" s__law_two_right f fd) (T : Txt K mg) {f__law_behind : Addr} {fd__law_behind : FuncData} (D__law_behind : Df P w K mg base 1 "_law_behind" ["_law_near", "_law_far"] C__law_behind f__law_behind fd__law_behind) {f__law_led : Addr} {fd__law_led : FuncData} (D__law_led : Df P w K mg base 1 "_law_led" ["_law_act", "_law_spot"] C__law_led f__law_led fd__law_led) {f_behind : Addr} {fd_behind : FuncData} (D_behind : Df P w K mg base 2 "behind" ["one", "other"] C_behind f_behind fd_behind) (kb_behind_other_one : KBinds K fd_behind ["one", "other"] ["other", "one"] g_behind_other_one gV_behind_other_one) : FnG P w K mg base CX0 3 f fd ["_law_near", "_law_far"] (spD K C__law_two_right) :=
  fnD F sc__law_two_right (fun n ds R h => by first | (obtain ⟨rfl, _⟩ := h; rfl) | (obtain ⟨_, rfl, _⟩ := h; rfl) | (obtain ⟨_, _, rfl, _⟩ := h; rfl) | (obtain ⟨_, _, _, rfl, _⟩ := h; rfl)) fun cdv A outer s H E hg hr => ⟨t__law_two_right K, d__law_two_right T D__law_behind D__law_led D_behind kb_behind_other_one hg hr, fun n ds R hC c hK => by subst hK; exact w__law_two_right hC⟩
theorem ok__law_back_right {f : Addr} {fd : FuncData} (F : Fun K "_law_back_right" "_law_back_right" s__law_back_right f fd) (T : Txt K mg) {f__law_behind : Addr} {fd__law_behind : FuncData} (D__law_behind : Df P w K mg base 1 "_law_behind" ["_law_near", "_law_far"] C__law_behind f__law_behind fd__law_behind) {f__law_is_motion : Addr} {fd__law_is_motion : FuncData} (D__law_is_motion : Df P w K mg base 2 "_law_is_motion" ["_law_it"] C__law_is_motion f__law_is_motion fd__law_is_motion) {f_back_of : Addr} {fd_back_of : FuncData} (D_back_of : Df P w K mg base 1 "back_of" ["motion"] C_back_of f_back_of fd_back_of) {f_behind : Addr} {fd_behind : FuncData} (D_behind : Df P w K mg base 2 "behind" ["one", "other"] C_behind f_behind fd_behind) (kb_back_of_motion : KBinds K fd_back_of ["motion"] ["motion"] g_back_of_motion gV_back_of_motion) : FnG P w K mg base CX0 3 f fd ["_law_near"] (spD K C__law_back_right) :=
  fnD F sc__law_back_right (fun n ds R h => by first | (obtain ⟨rfl, _⟩ := h; rfl) | (obtain ⟨_, rfl, _⟩ := h; rfl) | (obtain ⟨_, _, rfl, _⟩ := h; rfl) | (obtain ⟨_, _, _, rfl, _⟩ := h; rfl)) fun cdv A outer s H E hg hr => ⟨t__law_back_right K, d__law_back_right T D__law_behind D__law_is_motion D_back_of D_behind kb_back_of_motion hg hr, fun n ds R hC c hK => by subst hK; exact w__law_back_right hC⟩
theorem ok_law {f : Addr} {fd : FuncData} (F : Fun K "law" "law" s_law f fd) (T : Txt K mg) {f__law_back_right : Addr} {fd__law_back_right : FuncData} (D__law_back_right : Df P w K mg base 3 "_law_back_right" ["_law_near"] C__law_back_right f__law_back_right fd__law_back_right) {f__law_bent : Addr} {fd__law_bent : FuncData} (D__law_bent : Df P w K mg base 44 "_law_bent" ["_law_deck_here", "_law_it"] C__law_bent f__law_bent fd__law_bent) {f__law_deck : Addr} {fd__law_deck : FuncData} (D__law_deck : Df P w K mg base 1 "_law_deck" ["_law_script"] C__law_deck f__law_deck fd__law_deck) {f__law_motion : Addr} {fd__law_motion : FuncData} (D__law_motion : Df P w K mg base 3 "_law_motion" ["_law_deck_here"] C__law_motion f__law_motion fd__law_motion) {f__law_one_right : Addr} {fd__law_one_right : FuncData} (D__law_one_right : Df P w K mg base 3 "_law_one_right" ["_law_it"] C__law_one_right f__law_one_right fd__law_one_right) {f__law_two_right : Addr} {fd__law_two_right : FuncData} (D__law_two_right : Df P w K mg base 3 "_law_two_right" ["_law_near", "_law_far"] C__law_two_right f__law_two_right fd__law_two_right) {f_behind : Addr} {fd_behind : FuncData} (D_behind : Df P w K mg base 2 "behind" ["one", "other"] C_behind f_behind fd_behind) : FnG P w K mg base CX0 45 f fd ["_law_script"] (spL K) := by
  obtain ⟨rest, e, h⟩ := w_law K
  refine lawD (kb := "blend") (Cd := C__law_deck) (rest := rest) F sc_law (by decide) (fun cdv A outer s H E hg hr => ?_) (fun n ns R h => ⟨ns, rfl, fun cs m h1 h2 h3 => h cs m h1 h2 (by omega)⟩) h
  rw [← e]
  exact d_law T D__law_back_right D__law_bent D__law_deck D__law_motion D__law_one_right D__law_two_right D_behind hg hr
end
theorem all_mk {l : PySem.W.OpenLaw} {w : World} {K : PySem.W.Frag} {h : Heap} {mg : Str → Option Value} {fa f__law_behind f__law_turns f__law_is_motion f_back_of f_turn_behind f_behind f__law_back_right f__law_draw f__law_pick f__law_odd f__law_bent f__law_deck f__law_motion f_is_turn f_is_whole f_is_motion f__law_one_right f__law_led f__law_two_right f_law : Addr} (X : K.In h) (G : h.Ns mainGlobals mg) (hfa : mg "law" = some (.ref fa))
    {od__law_behind an__law_behind od__law_turns an__law_turns od__law_is_motion an__law_is_motion od_back_of an_back_of od_turn_behind an_turn_behind od_behind an_behind od__law_back_right an__law_back_right od__law_draw an__law_draw od__law_pick an__law_pick od__law_odd an__law_odd od__law_bent an__law_bent od__law_deck an__law_deck od__law_motion an__law_motion od_is_turn an_is_turn od_is_whole an_is_whole od_is_motion an_is_motion od__law_one_right an__law_one_right od__law_led an__law_led od__law_two_right an__law_two_right od_law an_law : Option Addr} {sl__law_behind sl__law_turns sl__law_is_motion sl_back_of sl_turn_behind sl_behind sl__law_back_right sl__law_draw sl__law_pick sl__law_odd sl__law_bent sl__law_deck sl__law_motion sl_is_turn sl_is_whole sl_is_motion sl__law_one_right sl__law_led sl__law_two_right sl_law : Array (Option Value)} {oc__law_behind kV__law_behind dc__law_behind pm__law_behind cd__law_behind ct__law_behind oc__law_turns kV__law_turns dc__law_turns pm__law_turns cd__law_turns ct__law_turns oc__law_is_motion kV__law_is_motion dc__law_is_motion pm__law_is_motion cd__law_is_motion ct__law_is_motion oc_back_of kV_back_of dc_back_of pm_back_of cd_back_of ct_back_of oc_turn_behind kV_turn_behind dc_turn_behind pm_turn_behind cd_turn_behind ct_turn_behind oc_behind kV_behind dc_behind pm_behind cd_behind ct_behind oc__law_back_right kV__law_back_right dc__law_back_right pm__law_back_right cd__law_back_right ct__law_back_right oc__law_draw kV__law_draw dc__law_draw pm__law_draw cd__law_draw ct__law_draw oc__law_pick kV__law_pick dc__law_pick pm__law_pick cd__law_pick ct__law_pick oc__law_odd kV__law_odd dc__law_odd pm__law_odd cd__law_odd ct__law_odd oc__law_bent kV__law_bent dc__law_bent pm__law_bent cd__law_bent ct__law_bent oc__law_deck kV__law_deck dc__law_deck pm__law_deck cd__law_deck ct__law_deck oc__law_motion kV__law_motion dc__law_motion pm__law_motion cd__law_motion ct__law_motion oc_is_turn kV_is_turn dc_is_turn pm_is_turn cd_is_turn ct_is_turn oc_is_whole kV_is_whole dc_is_whole pm_is_whole cd_is_whole ct_is_whole oc_is_motion kV_is_motion dc_is_motion pm_is_motion cd_is_motion ct_is_motion oc__law_one_right kV__law_one_right dc__law_one_right pm__law_one_right cd__law_one_right ct__law_one_right oc__law_led kV__law_led dc__law_led pm__law_led cd__law_led ct__law_led oc__law_two_right kV__law_two_right dc__law_two_right pm__law_two_right cd__law_two_right ct__law_two_right oc_law kV_law dc_law pm_law cd_law ct_law : Value}
    (a__law_behind : PySem.W.nsIn K mainGlobals "_law_behind" = some (some (.ref f__law_behind))) (l__law_behind : K.lookup f__law_behind = some ⟨oc__law_behind, od__law_behind, .func (PySem.W.fnOf "_law_behind" "_law_behind" (defArgs s__law_behind) (defBody s__law_behind) (defScope s__law_behind) .none kV__law_behind dc__law_behind pm__law_behind an__law_behind cd__law_behind ct__law_behind), sl__law_behind⟩) (c__law_behind : PySem.W.codeIn K cd__law_behind "_law_behind" = true) (k__law_behind : PySem.W.keepIn K (.ref f__law_behind) = true)
    (a__law_turns : PySem.W.nsIn K mainGlobals "_law_turns" = some (some (.ref f__law_turns))) (l__law_turns : K.lookup f__law_turns = some ⟨oc__law_turns, od__law_turns, .func (PySem.W.fnOf "_law_turns" "_law_turns" (defArgs s__law_turns) (defBody s__law_turns) (defScope s__law_turns) .none kV__law_turns dc__law_turns pm__law_turns an__law_turns cd__law_turns ct__law_turns), sl__law_turns⟩) (c__law_turns : PySem.W.codeIn K cd__law_turns "_law_turns" = true) (k__law_turns : PySem.W.keepIn K (.ref f__law_turns) = true)
    (a__law_is_motion : PySem.W.nsIn K mainGlobals "_law_is_motion" = some (some (.ref f__law_is_motion))) (l__law_is_motion : K.lookup f__law_is_motion = some ⟨oc__law_is_motion, od__law_is_motion, .func (PySem.W.fnOf "_law_is_motion" "_law_is_motion" (defArgs s__law_is_motion) (defBody s__law_is_motion) (defScope s__law_is_motion) .none kV__law_is_motion dc__law_is_motion pm__law_is_motion an__law_is_motion cd__law_is_motion ct__law_is_motion), sl__law_is_motion⟩) (c__law_is_motion : PySem.W.codeIn K cd__law_is_motion "_law_is_motion" = true) (k__law_is_motion : PySem.W.keepIn K (.ref f__law_is_motion) = true)
    (a_back_of : PySem.W.nsIn K mainGlobals "back_of" = some (some (.ref f_back_of))) (l_back_of : K.lookup f_back_of = some ⟨oc_back_of, od_back_of, .func (PySem.W.fnOf "back_of" "back_of" (defArgs s_back_of) (defBody s_back_of) (defScope s_back_of) .none kV_back_of dc_back_of pm_back_of an_back_of cd_back_of ct_back_of), sl_back_of⟩) (c_back_of : PySem.W.codeIn K cd_back_of "back_of" = true) (k_back_of : PySem.W.keepIn K (.ref f_back_of) = true)
    (a_turn_behind : PySem.W.nsIn K mainGlobals "turn_behind" = some (some (.ref f_turn_behind))) (l_turn_behind : K.lookup f_turn_behind = some ⟨oc_turn_behind, od_turn_behind, .func (PySem.W.fnOf "turn_behind" "turn_behind" (defArgs s_turn_behind) (defBody s_turn_behind) (defScope s_turn_behind) .none kV_turn_behind dc_turn_behind pm_turn_behind an_turn_behind cd_turn_behind ct_turn_behind), sl_turn_behind⟩) (c_turn_behind : PySem.W.codeIn K cd_turn_behind "turn_behind" = true) (k_turn_behind : PySem.W.keepIn K (.ref f_turn_behind) = true)
    (a_behind : PySem.W.nsIn K mainGlobals "behind" = some (some (.ref f_behind))) (l_behind : K.lookup f_behind = some ⟨oc_behind, od_behind, .func (PySem.W.fnOf "behind" "behind" (defArgs s_behind) (defBody s_behind) (defScope s_behind) .none kV_behind dc_behind pm_behind an_behind cd_behind ct_behind), sl_behind⟩) (c_behind : PySem.W.codeIn K cd_behind "behind" = true) (k_behind : PySem.W.keepIn K (.ref f_behind) = true)
    (a__law_back_right : PySem.W.nsIn K mainGlobals "_law_back_right" = some (some (.ref f__law_back_right))) (l__law_back_right : K.lookup f__law_back_right = some ⟨oc__law_back_right, od__law_back_right, .func (PySem.W.fnOf "_law_back_right" "_law_back_right" (defArgs s__law_back_right) (defBody s__law_back_right) (defScope s__law_back_right) .none kV__law_back_right dc__law_back_right pm__law_back_right an__law_back_right cd__law_back_right ct__law_back_right), sl__law_back_right⟩) (c__law_back_right : PySem.W.codeIn K cd__law_back_right "_law_back_right" = true) (k__law_back_right : PySem.W.keepIn K (.ref f__law_back_right) = true)
    (a__law_draw : PySem.W.nsIn K mainGlobals "_law_draw" = some (some (.ref f__law_draw))) (l__law_draw : K.lookup f__law_draw = some ⟨oc__law_draw, od__law_draw, .func (PySem.W.fnOf "_law_draw" "_law_draw" (defArgs s__law_draw) (defBody s__law_draw) (defScope s__law_draw) .none kV__law_draw dc__law_draw pm__law_draw an__law_draw cd__law_draw ct__law_draw), sl__law_draw⟩) (c__law_draw : PySem.W.codeIn K cd__law_draw "_law_draw" = true) (k__law_draw : PySem.W.keepIn K (.ref f__law_draw) = true)
    (a__law_pick : PySem.W.nsIn K mainGlobals "_law_pick" = some (some (.ref f__law_pick))) (l__law_pick : K.lookup f__law_pick = some ⟨oc__law_pick, od__law_pick, .func (PySem.W.fnOf "_law_pick" "_law_pick" (defArgs s__law_pick) (defBody s__law_pick) (defScope s__law_pick) .none kV__law_pick dc__law_pick pm__law_pick an__law_pick cd__law_pick ct__law_pick), sl__law_pick⟩) (c__law_pick : PySem.W.codeIn K cd__law_pick "_law_pick" = true) (k__law_pick : PySem.W.keepIn K (.ref f__law_pick) = true)
    (a__law_odd : PySem.W.nsIn K mainGlobals "_law_odd" = some (some (.ref f__law_odd))) (l__law_odd : K.lookup f__law_odd = some ⟨oc__law_odd, od__law_odd, .func (PySem.W.fnOf "_law_odd" "_law_odd" (defArgs s__law_odd) (defBody s__law_odd) (defScope s__law_odd) .none kV__law_odd dc__law_odd pm__law_odd an__law_odd cd__law_odd ct__law_odd), sl__law_odd⟩) (c__law_odd : PySem.W.codeIn K cd__law_odd "_law_odd" = true) (k__law_odd : PySem.W.keepIn K (.ref f__law_odd) = true)
    (a__law_bent : PySem.W.nsIn K mainGlobals "_law_bent" = some (some (.ref f__law_bent))) (l__law_bent : K.lookup f__law_bent = some ⟨oc__law_bent, od__law_bent, .func (PySem.W.fnOf "_law_bent" "_law_bent" (defArgs s__law_bent) (defBody s__law_bent) (defScope s__law_bent) .none kV__law_bent dc__law_bent pm__law_bent an__law_bent cd__law_bent ct__law_bent), sl__law_bent⟩) (c__law_bent : PySem.W.codeIn K cd__law_bent "_law_bent" = true) (k__law_bent : PySem.W.keepIn K (.ref f__law_bent) = true)
    (a__law_deck : PySem.W.nsIn K mainGlobals "_law_deck" = some (some (.ref f__law_deck))) (l__law_deck : K.lookup f__law_deck = some ⟨oc__law_deck, od__law_deck, .func (PySem.W.fnOf "_law_deck" "_law_deck" (defArgs s__law_deck) (defBody s__law_deck) (defScope s__law_deck) .none kV__law_deck dc__law_deck pm__law_deck an__law_deck cd__law_deck ct__law_deck), sl__law_deck⟩) (c__law_deck : PySem.W.codeIn K cd__law_deck "_law_deck" = true) (k__law_deck : PySem.W.keepIn K (.ref f__law_deck) = true)
    (a__law_motion : PySem.W.nsIn K mainGlobals "_law_motion" = some (some (.ref f__law_motion))) (l__law_motion : K.lookup f__law_motion = some ⟨oc__law_motion, od__law_motion, .func (PySem.W.fnOf "_law_motion" "_law_motion" (defArgs s__law_motion) (defBody s__law_motion) (defScope s__law_motion) .none kV__law_motion dc__law_motion pm__law_motion an__law_motion cd__law_motion ct__law_motion), sl__law_motion⟩) (c__law_motion : PySem.W.codeIn K cd__law_motion "_law_motion" = true) (k__law_motion : PySem.W.keepIn K (.ref f__law_motion) = true)
    (a_is_turn : PySem.W.nsIn K mainGlobals "is_turn" = some (some (.ref f_is_turn))) (l_is_turn : K.lookup f_is_turn = some ⟨oc_is_turn, od_is_turn, .func (PySem.W.fnOf "is_turn" "is_turn" (defArgs s_is_turn) (defBody s_is_turn) (defScope s_is_turn) .none kV_is_turn dc_is_turn pm_is_turn an_is_turn cd_is_turn ct_is_turn), sl_is_turn⟩) (c_is_turn : PySem.W.codeIn K cd_is_turn "is_turn" = true) (k_is_turn : PySem.W.keepIn K (.ref f_is_turn) = true)
    (a_is_whole : PySem.W.nsIn K mainGlobals "is_whole" = some (some (.ref f_is_whole))) (l_is_whole : K.lookup f_is_whole = some ⟨oc_is_whole, od_is_whole, .func (PySem.W.fnOf "is_whole" "is_whole" (defArgs s_is_whole) (defBody s_is_whole) (defScope s_is_whole) .none kV_is_whole dc_is_whole pm_is_whole an_is_whole cd_is_whole ct_is_whole), sl_is_whole⟩) (c_is_whole : PySem.W.codeIn K cd_is_whole "is_whole" = true) (k_is_whole : PySem.W.keepIn K (.ref f_is_whole) = true)
    (a_is_motion : PySem.W.nsIn K mainGlobals "is_motion" = some (some (.ref f_is_motion))) (l_is_motion : K.lookup f_is_motion = some ⟨oc_is_motion, od_is_motion, .func (PySem.W.fnOf "is_motion" "is_motion" (defArgs s_is_motion) (defBody s_is_motion) (defScope s_is_motion) .none kV_is_motion dc_is_motion pm_is_motion an_is_motion cd_is_motion ct_is_motion), sl_is_motion⟩) (c_is_motion : PySem.W.codeIn K cd_is_motion "is_motion" = true) (k_is_motion : PySem.W.keepIn K (.ref f_is_motion) = true)
    (a__law_one_right : PySem.W.nsIn K mainGlobals "_law_one_right" = some (some (.ref f__law_one_right))) (l__law_one_right : K.lookup f__law_one_right = some ⟨oc__law_one_right, od__law_one_right, .func (PySem.W.fnOf "_law_one_right" "_law_one_right" (defArgs s__law_one_right) (defBody s__law_one_right) (defScope s__law_one_right) .none kV__law_one_right dc__law_one_right pm__law_one_right an__law_one_right cd__law_one_right ct__law_one_right), sl__law_one_right⟩) (c__law_one_right : PySem.W.codeIn K cd__law_one_right "_law_one_right" = true) (k__law_one_right : PySem.W.keepIn K (.ref f__law_one_right) = true)
    (a__law_led : PySem.W.nsIn K mainGlobals "_law_led" = some (some (.ref f__law_led))) (l__law_led : K.lookup f__law_led = some ⟨oc__law_led, od__law_led, .func (PySem.W.fnOf "_law_led" "_law_led" (defArgs s__law_led) (defBody s__law_led) (defScope s__law_led) .none kV__law_led dc__law_led pm__law_led an__law_led cd__law_led ct__law_led), sl__law_led⟩) (c__law_led : PySem.W.codeIn K cd__law_led "_law_led" = true) (k__law_led : PySem.W.keepIn K (.ref f__law_led) = true)
    (a__law_two_right : PySem.W.nsIn K mainGlobals "_law_two_right" = some (some (.ref f__law_two_right))) (l__law_two_right : K.lookup f__law_two_right = some ⟨oc__law_two_right, od__law_two_right, .func (PySem.W.fnOf "_law_two_right" "_law_two_right" (defArgs s__law_two_right) (defBody s__law_two_right) (defScope s__law_two_right) .none kV__law_two_right dc__law_two_right pm__law_two_right an__law_two_right cd__law_two_right ct__law_two_right), sl__law_two_right⟩) (c__law_two_right : PySem.W.codeIn K cd__law_two_right "_law_two_right" = true) (k__law_two_right : PySem.W.keepIn K (.ref f__law_two_right) = true)
    (a_law : PySem.W.nsIn K mainGlobals "law" = some (some (.ref f_law))) (l_law : K.lookup f_law = some ⟨oc_law, od_law, .func (PySem.W.fnOf "law" "law" (defArgs s_law) (defBody s_law) (defScope s_law) .none kV_law dc_law pm_law an_law cd_law ct_law), sl_law⟩) (c_law : PySem.W.codeIn K cd_law "law" = true) (k_law : PySem.W.keepIn K (.ref f_law) = true)
    (z_all : PySem.W.nsIn K mainGlobals "all" = some none)
    (z_bool : PySem.W.nsIn K mainGlobals "bool" = some none)
    (z_int : PySem.W.nsIn K mainGlobals "int" = some none)
    (z_isinstance : PySem.W.nsIn K mainGlobals "isinstance" = some none)
    (z_len : PySem.W.nsIn K mainGlobals "len" = some none)
    (z_list : PySem.W.nsIn K mainGlobals "list" = some none)
    (z_range : PySem.W.nsIn K mainGlobals "range" = some none)
    (z_repr : PySem.W.nsIn K mainGlobals "repr" = some none)
    (z_set : PySem.W.nsIn K mainGlobals "set" = some none)
    (z_sorted : PySem.W.nsIn K mainGlobals "sorted" = some none)
    (z_str : PySem.W.nsIn K mainGlobals "str" = some none)
    (z_sum : PySem.W.nsIn K mainGlobals "sum" = some none)
    (z_tuple : PySem.W.nsIn K mainGlobals "tuple" = some none)
    {t_LETTERS : Tok} (v_LETTERS : PySem.W.nsIn K mainGlobals "LETTERS" = some (some (.str "epsw" t_LETTERS)))
    {t_MOTION_PARTS : Tok} (v_MOTION_PARTS : PySem.W.nsIn K mainGlobals "MOTION_PARTS" = some (some (.int 3 t_MOTION_PARTS))) :
    ∃ fd : FuncData, (∀ (s : Shared) (v : Value), BindsTo s fd ⟨[v], []⟩ [("_law_script", v)]) ∧ ∀ base : Heap, K.In base → base.Ns mainGlobals mg → FnG l.prog w K mg base CX0 45 fa fd ["_law_script"] (spL K) := by
  have e := hfa.symm.trans (PySem.W.mg_of X G a_law)
  cases e
  have F__law_behind := fun_mk (st := s__law_behind) l__law_behind c__law_behind k__law_behind
  have F__law_turns := fun_mk (st := s__law_turns) l__law_turns c__law_turns k__law_turns
  have F__law_is_motion := fun_mk (st := s__law_is_motion) l__law_is_motion c__law_is_motion k__law_is_motion
  have F_back_of := fun_mk (st := s_back_of) l_back_of c_back_of k_back_of
  have F_turn_behind := fun_mk (st := s_turn_behind) l_turn_behind c_turn_behind k_turn_behind
  have F_behind := fun_mk (st := s_behind) l_behind c_behind k_behind
  have F__law_back_right := fun_mk (st := s__law_back_right) l__law_back_right c__law_back_right k__law_back_right
  have F__law_draw := fun_mk (st := s__law_draw) l__law_draw c__law_draw k__law_draw
  have F__law_pick := fun_mk (st := s__law_pick) l__law_pick c__law_pick k__law_pick
  have F__law_odd := fun_mk (st := s__law_odd) l__law_odd c__law_odd k__law_odd
  have F__law_bent := fun_mk (st := s__law_bent) l__law_bent c__law_bent k__law_bent
  have F__law_deck := fun_mk (st := s__law_deck) l__law_deck c__law_deck k__law_deck
  have F__law_motion := fun_mk (st := s__law_motion) l__law_motion c__law_motion k__law_motion
  have F_is_turn := fun_mk (st := s_is_turn) l_is_turn c_is_turn k_is_turn
  have F_is_whole := fun_mk (st := s_is_whole) l_is_whole c_is_whole k_is_whole
  have F_is_motion := fun_mk (st := s_is_motion) l_is_motion c_is_motion k_is_motion
  have F__law_one_right := fun_mk (st := s__law_one_right) l__law_one_right c__law_one_right k__law_one_right
  have F__law_led := fun_mk (st := s__law_led) l__law_led c__law_led k__law_led
  have F__law_two_right := fun_mk (st := s__law_two_right) l__law_two_right c__law_two_right k__law_two_right
  have F_law := fun_mk (st := s_law) l_law c_law k_law
  have T : Txt K mg := ⟨PySem.W.mg_none_of X G z_all, PySem.W.mg_none_of X G z_bool, PySem.W.mg_none_of X G z_int, PySem.W.mg_none_of X G z_isinstance, PySem.W.mg_none_of X G z_len, PySem.W.mg_none_of X G z_list, PySem.W.mg_none_of X G z_range, PySem.W.mg_none_of X G z_repr, PySem.W.mg_none_of X G z_set, PySem.W.mg_none_of X G z_sorted, PySem.W.mg_none_of X G z_str, PySem.W.mg_none_of X G z_sum, PySem.W.mg_none_of X G z_tuple, ⟨t_LETTERS, PySem.W.mg_of X G v_LETTERS⟩, ⟨t_MOTION_PARTS, PySem.W.mg_of X G v_MOTION_PARTS⟩⟩
  have b__law_behind := F__law_behind.binds (ps := ["_law_near", "_law_far"]) fun _ _ _ _ _ _ us hl => match us, hl with | [_, _], _ => rfl
  have b__law_turns := F__law_turns.binds (ps := []) fun _ _ _ _ _ _ us hl => match us, hl with | [], _ => rfl
  have b__law_is_motion := F__law_is_motion.binds (ps := ["_law_it"]) fun _ _ _ _ _ _ us hl => match us, hl with | [_], _ => rfl
  have b_back_of := F_back_of.binds (ps := ["motion"]) fun _ _ _ _ _ _ us hl => match us, hl with | [_], _ => rfl
  have b_turn_behind := F_turn_behind.binds (ps := ["turn", "later"]) fun _ _ _ _ _ _ us hl => match us, hl with | [_, _], _ => rfl
  have b_behind := F_behind.binds (ps := ["one", "other"]) fun _ _ _ _ _ _ us hl => match us, hl with | [_, _], _ => rfl
  have b__law_back_right := F__law_back_right.binds (ps := ["_law_near"]) fun _ _ _ _ _ _ us hl => match us, hl with | [_], _ => rfl
  have b__law_draw := F__law_draw.binds (ps := ["_law_deck_here", "_law_below"]) fun _ _ _ _ _ _ us hl => match us, hl with | [_, _], _ => rfl
  have b__law_pick := F__law_pick.binds (ps := ["_law_deck_here", "_law_some"]) fun _ _ _ _ _ _ us hl => match us, hl with | [_, _], _ => rfl
  have b__law_odd := F__law_odd.binds (ps := ["_law_deck_here", "_law_it"]) fun _ _ _ _ _ _ us hl => match us, hl with | [_, _], _ => rfl
  have b__law_bent := F__law_bent.binds (ps := ["_law_deck_here", "_law_it"]) fun _ _ _ _ _ _ us hl => match us, hl with | [_, _], _ => rfl
  have b__law_deck := F__law_deck.binds (ps := ["_law_script"]) fun _ _ _ _ _ _ us hl => match us, hl with | [_], _ => rfl
  have b__law_motion := F__law_motion.binds (ps := ["_law_deck_here"]) fun _ _ _ _ _ _ us hl => match us, hl with | [_], _ => rfl
  have b_is_turn := F_is_turn.binds (ps := ["thing"]) fun _ _ _ _ _ _ us hl => match us, hl with | [_], _ => rfl
  have b_is_whole := F_is_whole.binds (ps := ["thing"]) fun _ _ _ _ _ _ us hl => match us, hl with | [_], _ => rfl
  have b_is_motion := F_is_motion.binds (ps := ["thing"]) fun _ _ _ _ _ _ us hl => match us, hl with | [_], _ => rfl
  have b__law_one_right := F__law_one_right.binds (ps := ["_law_it"]) fun _ _ _ _ _ _ us hl => match us, hl with | [_], _ => rfl
  have b__law_led := F__law_led.binds (ps := ["_law_act", "_law_spot"]) fun _ _ _ _ _ _ us hl => match us, hl with | [_, _], _ => rfl
  have b__law_two_right := F__law_two_right.binds (ps := ["_law_near", "_law_far"]) fun _ _ _ _ _ _ us hl => match us, hl with | [_, _], _ => rfl
  have kb_back_of_motion := mkb_back_of_motion F_back_of
  have kb_is_motion_thing := mkb_is_motion_thing F_is_motion
  have kb_behind_other_one := mkb_behind_other_one F_behind
  refine ⟨PySem.W.fnOf "law" "law" (defArgs s_law) (defBody s_law) (defScope s_law) .none kV_law dc_law pm_law an_law cd_law ct_law, fun s v => .of_eq rfl, fun base _ _ => ?_⟩
  have D__law_behind : Df l.prog w K mg base 1 "_law_behind" ["_law_near", "_law_far"] C__law_behind f__law_behind _ := ⟨PySem.W.mg_of X G a__law_behind, k__law_behind, b__law_behind, ok__law_behind F__law_behind T⟩
  have D__law_turns : Df l.prog w K mg base 1 "_law_turns" [] C__law_turns f__law_turns _ := ⟨PySem.W.mg_of X G a__law_turns, k__law_turns, b__law_turns, ok__law_turns F__law_turns T⟩
  have D__law_is_motion : Df l.prog w K mg base 2 "_law_is_motion" ["_law_it"] C__law_is_motion f__law_is_motion _ := ⟨PySem.W.mg_of X G a__law_is_motion, k__law_is_motion, b__law_is_motion, ok__law_is_motion F__law_is_motion T D__law_turns⟩
  have D_back_of : Df l.prog w K mg base 1 "back_of" ["motion"] C_back_of f_back_of _ := ⟨PySem.W.mg_of X G a_back_of, k_back_of, b_back_of, ok_back_of F_back_of T⟩
  have D_turn_behind : Df l.prog w K mg base 1 "turn_behind" ["turn", "later"] C_turn_behind f_turn_behind _ := ⟨PySem.W.mg_of X G a_turn_behind, k_turn_behind, b_turn_behind, ok_turn_behind F_turn_behind T⟩
  have D_behind : Df l.prog w K mg base 2 "behind" ["one", "other"] C_behind f_behind _ := ⟨PySem.W.mg_of X G a_behind, k_behind, b_behind, ok_behind F_behind T D_turn_behind⟩
  have D__law_back_right : Df l.prog w K mg base 3 "_law_back_right" ["_law_near"] C__law_back_right f__law_back_right _ := ⟨PySem.W.mg_of X G a__law_back_right, k__law_back_right, b__law_back_right, ok__law_back_right F__law_back_right T D__law_behind D__law_is_motion D_back_of D_behind kb_back_of_motion⟩
  have D__law_draw : Df l.prog w K mg base 1 "_law_draw" ["_law_deck_here", "_law_below"] C__law_draw f__law_draw _ := ⟨PySem.W.mg_of X G a__law_draw, k__law_draw, b__law_draw, ok__law_draw F__law_draw T⟩
  have D__law_pick : Df l.prog w K mg base 2 "_law_pick" ["_law_deck_here", "_law_some"] C__law_pick f__law_pick _ := ⟨PySem.W.mg_of X G a__law_pick, k__law_pick, b__law_pick, ok__law_pick F__law_pick T D__law_draw⟩
  have D__law_odd : Df l.prog w K mg base 3 "_law_odd" ["_law_deck_here", "_law_it"] C__law_odd f__law_odd _ := ⟨PySem.W.mg_of X G a__law_odd, k__law_odd, b__law_odd, ok__law_odd F__law_odd T D__law_pick⟩
  have D__law_bent : Df l.prog w K mg base 44 "_law_bent" ["_law_deck_here", "_law_it"] C__law_bent f__law_bent _ := ⟨PySem.W.mg_of X G a__law_bent, k__law_bent, b__law_bent, (okr__law_bent F__law_bent T (PySem.W.mg_of X G a__law_bent) b__law_bent D__law_draw D__law_odd 40).mono (by decide)⟩
  have D__law_deck : Df l.prog w K mg base 1 "_law_deck" ["_law_script"] C__law_deck f__law_deck _ := ⟨PySem.W.mg_of X G a__law_deck, k__law_deck, b__law_deck, ok__law_deck F__law_deck T⟩
  have D__law_motion : Df l.prog w K mg base 3 "_law_motion" ["_law_deck_here"] C__law_motion f__law_motion _ := ⟨PySem.W.mg_of X G a__law_motion, k__law_motion, b__law_motion, ok__law_motion F__law_motion T D__law_draw D__law_pick D__law_turns⟩
  have D_is_turn : Df l.prog w K mg base 1 "is_turn" ["thing"] C_is_turn f_is_turn _ := ⟨PySem.W.mg_of X G a_is_turn, k_is_turn, b_is_turn, ok_is_turn F_is_turn T⟩
  have D_is_whole : Df l.prog w K mg base 1 "is_whole" ["thing"] C_is_whole f_is_whole _ := ⟨PySem.W.mg_of X G a_is_whole, k_is_whole, b_is_whole, ok_is_whole F_is_whole T⟩
  have D_is_motion : Df l.prog w K mg base 2 "is_motion" ["thing"] C_is_motion f_is_motion _ := ⟨PySem.W.mg_of X G a_is_motion, k_is_motion, b_is_motion, ok_is_motion F_is_motion T D_is_turn D_is_whole⟩
  have D__law_one_right : Df l.prog w K mg base 3 "_law_one_right" ["_law_it"] C__law_one_right f__law_one_right _ := ⟨PySem.W.mg_of X G a__law_one_right, k__law_one_right, b__law_one_right, ok__law_one_right F__law_one_right T D__law_is_motion D_is_motion kb_is_motion_thing⟩
  have D__law_led : Df l.prog w K mg base 1 "_law_led" ["_law_act", "_law_spot"] C__law_led f__law_led _ := ⟨PySem.W.mg_of X G a__law_led, k__law_led, b__law_led, ok__law_led F__law_led T⟩
  have D__law_two_right : Df l.prog w K mg base 3 "_law_two_right" ["_law_near", "_law_far"] C__law_two_right f__law_two_right _ := ⟨PySem.W.mg_of X G a__law_two_right, k__law_two_right, b__law_two_right, ok__law_two_right F__law_two_right T D__law_behind D__law_led D_behind kb_behind_other_one⟩
  exact ok_law F_law T D__law_back_right D__law_bent D__law_deck D__law_motion D__law_one_right D__law_two_right D_behind
theorem walk {l : PySem.W.OpenLaw} {q : Program} {loose : List Str} {XP : (Str → Option Value) → Heap → Prop} {YP : World → Heap → Prop} {d : DefRec} {K : Params → PySem.W.Frag} (hn : l.most = some 63) (hdf : d.params.defaults = [])
    (hY : ∀ (w : World) (h : Heap), YP w h → (K w.params).In h)
    (F : ∀ (w : World) (mg : Str → Option Value) (fa : Addr) (h : Heap), (K w.params).In h → h.Ns mainGlobals mg → mg d.name = some (.ref fa) →
      ∃ fd : FuncData, (∀ (s : Shared) (u : Value), BindsTo s fd ⟨[u], []⟩ [("_law_script", u)]) ∧ ∀ base : Heap, (K w.params).In base → base.Ns mainGlobals mg → FnG l.prog w (K w.params) mg base CX0 45 fa fd ["_law_script"] (spL (K w.params))) :
    PySem.W.WalkO q loose XP YP l.row.toRowW d [] (fun f vs => PySem.call f vs) :=
  walkG (n := 63) (k := 45) (x := "_law_script") (CX := fun _ => CX0) (sp := fun w => spL (K w.params)) hn (by decide) hdf ⟨rfl, by decide, by decide⟩ hY F (fun _ _ a ns _ _ hS => ⟨a, ns, rfl, hS, fun _ => rfl⟩) fun _ _ _ _ _ z => z
end K59
open PySem PySem.W PyProof.Rows
set_option maxRecDepth 100000 in
set_option maxHeartbeats 0 in
theorem PySem.Challenge.cw_loomhold_k59_motions_of_any_value_holds : PySem.Challenge.rw_loomhold_k59_motions_of_any_value.Holds := by
  w_on; o_law; k_head; (case hw => w_witness2)
  k_fill
  refine K59.walk (l := PySem.Challenge.rw_loomhold_k59_motions_of_any_value) rfl rfl (fun w h Y => PySem.W.kIn_of Y) ?F
  case F =>
    intro w mg fa h KX G hmg
    refine' K59.all_mk KX G hmg ?a__law_behind ?l__law_behind ?c__law_behind ?k__law_behind ?a__law_turns ?l__law_turns ?c__law_turns ?k__law_turns ?a__law_is_motion ?l__law_is_motion ?c__law_is_motion ?k__law_is_motion ?a_back_of ?l_back_of ?c_back_of ?k_back_of ?a_turn_behind ?l_turn_behind ?c_turn_behind ?k_turn_behind ?a_behind ?l_behind ?c_behind ?k_behind ?a__law_back_right ?l__law_back_right ?c__law_back_right ?k__law_back_right ?a__law_draw ?l__law_draw ?c__law_draw ?k__law_draw ?a__law_pick ?l__law_pick ?c__law_pick ?k__law_pick ?a__law_odd ?l__law_odd ?c__law_odd ?k__law_odd ?a__law_bent ?l__law_bent ?c__law_bent ?k__law_bent ?a__law_deck ?l__law_deck ?c__law_deck ?k__law_deck ?a__law_motion ?l__law_motion ?c__law_motion ?k__law_motion ?a_is_turn ?l_is_turn ?c_is_turn ?k_is_turn ?a_is_whole ?l_is_whole ?c_is_whole ?k_is_whole ?a_is_motion ?l_is_motion ?c_is_motion ?k_is_motion ?a__law_one_right ?l__law_one_right ?c__law_one_right ?k__law_one_right ?a__law_led ?l__law_led ?c__law_led ?k__law_led ?a__law_two_right ?l__law_two_right ?c__law_two_right ?k__law_two_right ?a_law ?l_law ?c_law ?k_law ?z_all ?z_bool ?z_int ?z_isinstance ?z_len ?z_list ?z_range ?z_repr ?z_set ?z_sorted ?z_str ?z_sum ?z_tuple ?v_LETTERS ?v_MOTION_PARTS
    (case a__law_behind => k_is)
    (case l__law_behind => k_is)
    (case c__law_behind => k_is)
    (case k__law_behind => k_is)
    (case a__law_turns => k_is)
    (case l__law_turns => k_is)
    (case c__law_turns => k_is)
    (case k__law_turns => k_is)
    (case a__law_is_motion => k_is)
    (case l__law_is_motion => k_is)
    (case c__law_is_motion => k_is)
    (case k__law_is_motion => k_is)
    (case a_back_of => k_is)
    (case l_back_of => k_is)
    (case c_back_of => k_is)
    (case k_back_of => k_is)
    (case a_turn_behind => k_is)
    (case l_turn_behind => k_is)
    (case c_turn_behind => k_is)
    (case k_turn_behind => k_is)
    (case a_behind => k_is)
    (case l_behind => k_is)
    (case c_behind => k_is)
    (case k_behind => k_is)
    (case a__law_back_right => k_is)
    (case l__law_back_right => k_is)
    (case c__law_back_right => k_is)
    (case k__law_back_right => k_is)
    (case a__law_draw => k_is)
    (case l__law_draw => k_is)
    (case c__law_draw => k_is)
    (case k__law_draw => k_is)
    (case a__law_pick => k_is)
    (case l__law_pick => k_is)
    (case c__law_pick => k_is)
    (case k__law_pick => k_is)
    (case a__law_odd => k_is)
    (case l__law_odd => k_is)
    (case c__law_odd => k_is)
    (case k__law_odd => k_is)
    (case a__law_bent => k_is)
    (case l__law_bent => k_is)
    (case c__law_bent => k_is)
    (case k__law_bent => k_is)
    (case a__law_deck => k_is)
    (case l__law_deck => k_is)
    (case c__law_deck => k_is)
    (case k__law_deck => k_is)
    (case a__law_motion => k_is)
    (case l__law_motion => k_is)
    (case c__law_motion => k_is)
    (case k__law_motion => k_is)
    (case a_is_turn => k_is)
    (case l_is_turn => k_is)
    (case c_is_turn => k_is)
    (case k_is_turn => k_is)
    (case a_is_whole => k_is)
    (case l_is_whole => k_is)
    (case c_is_whole => k_is)
    (case k_is_whole => k_is)
    (case a_is_motion => k_is)
    (case l_is_motion => k_is)
    (case c_is_motion => k_is)
    (case k_is_motion => k_is)
    (case a__law_one_right => k_is)
    (case l__law_one_right => k_is)
    (case c__law_one_right => k_is)
    (case k__law_one_right => k_is)
    (case a__law_led => k_is)
    (case l__law_led => k_is)
    (case c__law_led => k_is)
    (case k__law_led => k_is)
    (case a__law_two_right => k_is)
    (case l__law_two_right => k_is)
    (case c__law_two_right => k_is)
    (case k__law_two_right => k_is)
    (case a_law => k_is)
    (case l_law => k_is)
    (case c_law => k_is)
    (case k_law => k_is)
    (case z_all => k_is)
    (case z_bool => k_is)
    (case z_int => k_is)
    (case z_isinstance => k_is)
    (case z_len => k_is)
    (case z_list => k_is)
    (case z_range => k_is)
    (case z_repr => k_is)
    (case z_set => k_is)
    (case z_sorted => k_is)
    (case z_str => k_is)
    (case z_sum => k_is)
    (case z_tuple => k_is)
    (case v_LETTERS => k_is)
    (case v_MOTION_PARTS => k_is)
