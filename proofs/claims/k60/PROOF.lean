import PyProof.Rows.All
import Wide.All
import OpenK.AllK
import Wide.FinOn
import HandS.ForMost
import PyProof.ReprRoads
import HandS.TupAny
import HandS.IsInst
import HandS.Style
import HandS.Strs
import HandS.NoneIn
import HandS.Set
import HandS.SetFor
import PyProof.StrWalks
import PyProof.ListStr
import PyProof.Rows.SortShellAny
import PyProof.Rows.IntBool
import PyProof.CallStr
import PyProof.ReprLen
import HandS.RaiseMore
import PyProof.Rows.ReprOcc
import HandS.More
import KE.GoesEnum
import HandS.Zip
import KE.RegKIsAll
import PySem.Challenge.RW_loomhold_k60_cloths_and_strands_moved
set_option Elab.async false
set_option linter.all false
set_option maxRecDepth 100000
set_option maxHeartbeats 2000000
/-! D0: defs whose promise may lean on the stack having no guard (repr), and the law's end over such promises. -/
namespace DL
open PySem PySem.Spec PyProof.Rows L2

/-- a def's promise, asked only where no guard runs -/
structure FnG (P : Program) (w : World) (K : PySem.W.Frag) (mg : Str → Option Value) (base : Heap) (CX : CXT) (k : Nat) (f : Addr) (fd : FuncData) (ps : List Str) (sp : Sp) : Prop where
  len : ∀ vs H Q E, sp vs H Q E → vs.length = ps.length
  go : ∀ (A : Around) (outer : List Env) (s : Shared) (H : Hp) (args : Args) (us : List Value) (vs : List V) (Q : VK) (E : XK),
    A.guards = some [] → Room k A → Env0 P w K mg base A outer s H → BindsTo s fd args (ps.zip us) → Vals vs us → sp vs H Q E → codeAny (model P w) A (.call (.ref f) args) (CR CX outer P w H s Q E) s

section
variable {P : Program} {w : World} {K : PySem.W.Frag} {mg : Str → Option Value} {base : Heap} {CX : CXT} {k : Nat} {f : Addr} {fd : FuncData} {ps : List Str} {sp : Sp}

theorem FnG.of (F : FnOk P w K mg base CX k f fd ps sp) : FnG P w K mg base CX k f fd ps sp :=
  ⟨F.len, fun A outer s H args us vs Q E _ hr => F.run A outer s H args us vs Q E hr⟩
theorem FnG.mono {j : Nat} (F : FnG P w K mg base CX j f fd ps sp) (h : j ≤ k) : FnG P w K mg base CX k f fd ps sp :=
  ⟨F.len, fun A outer s H args us vs Q E hg hr => F.go A outer s H args us vs Q E hg (hr.mono h)⟩

/-- what a body must show: the reading of its derivation, where no guard runs -/
theorem fn_ofG {name qual : Str} {params : Arguments} {body : List Stmt} {scope : Scope} {dV kV doc pm cdv ct oc : Value} {an od : Option Addr} {osl : Array (Option Value)} {N : List Str}
    (lk : K.lookup f = some ⟨oc, od, .func (PySem.W.fnOf name qual params body scope dV kV doc pm an cdv ct), osl⟩)
    (hcd : PySem.W.codeIn K cdv qual = true) (S : FnScope N ps scope) (len : ∀ vs H Q E, sp vs H Q E → vs.length = ps.length)
    (hb : ∀ (A : Around) (outer : List Env) (s : Shared) (H : Hp) (vs : List V) (Q : VK) (E : XK), A.guards = some [] →
      Room k (A.deeper (envOfC qual scope s.heap.objs.size f cdv)) → sp vs H Q E →
      ∃ t, PSs (cxOf CX P w K mg base N qual scope f cdv A outer s H E) body t ∧ t { nx := fun _ H' => Q .non H', rt := Q } (start N vs) H) :
    FnG P w K mg base CX (k + 1) f (PySem.W.fnOf name qual params body scope dV kV doc pm an cdv ct) ps sp := by
  refine ⟨len, fun A outer s H args us vs Q E hg hr e0 hbd r hsp => ?_⟩
  have KX : K.In s.heap := e0.mod.kin.keeps fun b o e => (e0.bs b o e).1
  refine codeAny_call_function hr.depth (KX _ _ lk) rfl S.co S.gen rfl (PySem.W.codeRec_of KX hcd) (hbd _ _ _ _ ?_)
  refine wpAny_newFunctionEnv_cells S.kind (fun y hy => ?_) fun env he s1 x => ?_
  · obtain ⟨n, v⟩ := y
    cases S.par n (List.of_mem_zip hy).1 with
    | inl q => exact .inl q
    | inr q => exact .inr ⟨q, PySem.W.cellsFrom_some _ _ _ (.inl q)⟩
  subst he
  refine ⟨(e0.mod.nolimit.keeps fun b o e => (e0.bs b o e).1).keeps x.toInCall.keep, codeAny_func ?_⟩
  obtain ⟨t, ht, hq⟩ := hb A outer s H vs Q E hg (hr.deeper _) hsp
  have I := inv_start (CX := CX) (E := E) S hr.hd e0 (len _ _ _ _ hsp) r x
  refine wpAny_mono (ht.run [] s1 (start N vs) H _ I hq) (fun fl s' hs => ?_) fun e s' hs => hs
  match fl, hs with
  | .ret u, ⟨v, σ', H', J, rv, q⟩ => exact ⟨v, H', J.os, J.bare, J.base, J.hok, rv, q⟩
  | .next, ⟨σ', H', J, q⟩ => exact ⟨V.non, H', J.os, J.bare, J.base, J.hok, rfl, q⟩
  | .brk, ⟨_, _, _, q⟩ => exact q.elim
  | .cont, ⟨_, _, _, q⟩ => exact q.elim

theorem okG {x qual : Str} {st : Stmt} {N : List Str} (F : Fun K x qual st f fd) (S : FnScope N ps (defScope st)) (len : ∀ vs H Q E, sp vs H Q E → vs.length = ps.length)
    (hb : ∀ (cdv : Value) (A : Around) (outer : List Env) (s : Shared) (H : Hp) (vs : List V) (Q : VK) (E : XK), A.guards = some [] →
      Room k (A.deeper (envOfC qual (defScope st) s.heap.objs.size f cdv)) → sp vs H Q E →
      ∃ t, PSs (cxOf CX P w K mg base N qual (defScope st) f cdv A outer s H E) (defBody st) t ∧ t { nx := fun _ H' => Q .non H', rt := Q } (start N vs) H) : FnG P w K mg base CX (k + 1) f fd ps sp := by
  obtain ⟨oc, od, kV, doc, pm, an, cdv, ct, osl, rfl, lk, hcd⟩ := F.ex
  exact fn_ofG lk hcd S len fun A outer s H vs Q E => hb cdv A outer s H vs Q E
end

section
variable {X : Cx} {CX : CXT} {k : Nat} {f : Addr} {fd : FuncData} {ps ks : List Str} {sp : Sp} {E : XK} {x : Str} {p pos : Pos} {e : Expr} {es : List Expr} {kws : List Keyword} {t tk : TA}
  {g : List Value → List Value → List Value} {gV : List V → List V → List V}

theorem runG {pins : List (Addr × Obj)} {σ : L2.St} {H : Hp} {s : Shared} {Q : VK} {args : Args} {us : List Value} {vs : List V} (F : FnG X.prog X.w X.K X.mg X.base CX k f fd ps sp) (hg : X.A.guards = some []) (hr : Room k X.A)
    (hx : Passes CX X E) (I : Inv X pins σ H s) (hb : BindsTo s fd args (ps.zip us)) (r : Vals vs us) (h : sp vs H Q E) : wpAny (model X.prog X.w) X.A (call (.ref f) args.pos args.kw) (EP X pins σ Q) X.xe s := by
  refine wpAny_call (codeAny_mono (F.go X.A X.stack s H _ us vs Q E hg hr I.env0 hb r h) fun z s' hq => ?_)
  match z, hq with
  | .error e, hq => exact hx pins σ H s e s' I hq
  | .ok (.ret u), hq => exact I.after hq
  | .ok .next, hq => exact hq.elim
  | .ok .brk, hq => exact hq.elim
  | .ok .cont, hq => exact hq.elim

/-- f(e, ..) with positional arguments only, all given -/
theorem pe_cG (F : FnG X.prog X.w X.K X.mg X.base CX k f fd ps sp) (hgd : X.A.guards = some []) (hr : Room k X.A) (hg : Gl X x) (hm : X.mg x = some (.ref f)) (hk : PySem.W.keepIn X.K (.ref f) = true) (hb : Binds X.K fd ps []) (hx : Passes CX X E)
    (ha : PA X (e :: es) t) (hdb : (x == ("__debug__" : Str)) = false := by decide) (he : starEach (e :: es) X.env = (false, eval e X.env) :: starEach es X.env := by rfl) (hpl : (backTo pos (starEach es X.env)).any (·.1) = false := by rfl) :
    PE X (.Call (.Name x p) (e :: es) [] pos) (tCall sp [] E t) := by
  refine ⟨fun pins s σ H Q I h => wpAny_Call_Name_kw (ld_glob I hg hm ?_ hdb)⟩
  refine PySem.W.callWith_K (h₀ := X.base) I.ok.mod.kin hk (thn (ha.run pos pins s σ H _ I h) fun us s1 ⟨vs, H1, I1, r, q⟩ => ⟨I1.kIn, ?_⟩) he hpl
  have q' : sp vs H1 Q E := by simpa using q
  have hl : (us ++ []).length = ps.length := by rw [List.append_nil, ← r.length]; exact F.len _ _ _ _ q'
  have b := hb s1 us I1.kIn hl
  rw [List.append_nil] at b
  exact runG F hgd hr hx I1 b r q'
/-- f() -/
theorem pe_cG0 (F : FnG X.prog X.w X.K X.mg X.base CX k f fd [] sp) (hgd : X.A.guards = some []) (hr : Room k X.A) (hg : Gl X x) (hm : X.mg x = some (.ref f)) (hk : PySem.W.keepIn X.K (.ref f) = true) (hb : Binds X.K fd [] []) (hx : Passes CX X E)
    (hdb : (x == ("__debug__" : Str)) = false := by decide) : PE X (.Call (.Name x p) [] [] pos) (tCall sp [] E tNil) := by
  refine ⟨fun pins s σ H Q I h => wpAny_Call_Name_kw (ld_glob I hg hm (PySem.W.callWith_K0 I.kIn hk ?_) hdb)⟩
  exact runG (args := ⟨[], []⟩) (us := []) F hgd hr hx I (hb s [] I.kIn rfl) .nil h
/-- f(e, .., k = v, ..) -/
theorem pe_cGK (F : FnG X.prog X.w X.K X.mg X.base CX k f fd ps sp) (hgd : X.A.guards = some []) (hr : Room k X.A) (hg : Gl X x) (hm : X.mg x = some (.ref f)) (hk : PySem.W.keepIn X.K (.ref f) = true) (hb : KBinds X.K fd ps ks g gV) (hx : Passes CX X E)
    (ha : PA X (e :: es) t) (hkw : PK X kws tk) (hall : (backToKw pos (keywordEach kws X.env)).all (·.1.isSome) = true := by rfl) (hks : (backToKw pos (keywordEach kws X.env)).filterMap (·.1) = ks := by rfl)
    (hdb : (x == ("__debug__" : Str)) = false := by decide) (he : starEach (e :: es) X.env = (false, eval e X.env) :: starEach es X.env := by rfl)
    (hpl : ((backTo pos (starEach (e :: es) X.env)).any (·.1) || (backToKw pos (keywordEach kws X.env)).any (·.1.isNone)) = false := by rfl) :
    PE X (.Call (.Name x p) (e :: es) kws pos) (tCallK sp gV E t tk) := by
  refine ⟨fun pins s σ H Q I h => wpAny_Call_Name_kw (ld_glob I hg hm ?_ hdb)⟩
  refine PySem.W.callWith_KW (h₀ := X.base) I.ok.mod.kin hk hall (thn (ha.run pos pins s σ H _ I h) fun us s1 ⟨vs, H1, I1, r, q⟩ => ?_) hpl he
  refine thn (hkw.run pos pins s1 σ H1 _ I1 q) fun ws s2 ⟨zs, H2, I2, rz, q2⟩ => ⟨I2.kIn, ?_⟩
  rw [hks]
  have r2 := hb.rel r rz
  have hl : (g us ws).length = ps.length := by rw [← r2.length]; exact F.len _ _ _ _ q2
  exact runG (args := ⟨us, ks.zip ws⟩) F hgd hr hx I2 (hb.to s2 us ws I2.kIn hl) r2 q2
/-- f(k = v, ..) -/
theorem pe_cGK0 (F : FnG X.prog X.w X.K X.mg X.base CX k f fd ps sp) (hgd : X.A.guards = some []) (hr : Room k X.A) (hg : Gl X x) (hm : X.mg x = some (.ref f)) (hk : PySem.W.keepIn X.K (.ref f) = true) (hb : KBinds X.K fd ps ks g gV) (hx : Passes CX X E)
    (hkw : PK X kws tk) (hall : (backToKw pos (keywordEach kws X.env)).all (·.1.isSome) = true := by rfl) (hks : (backToKw pos (keywordEach kws X.env)).filterMap (·.1) = ks := by rfl)
    (hdb : (x == ("__debug__" : Str)) = false := by decide)
    (hpl : ((backTo pos (starEach [] X.env)).any (·.1) || (backToKw pos (keywordEach kws X.env)).any (·.1.isNone)) = false := by rfl) :
    PE X (.Call (.Name x p) [] kws pos) (tCallK sp gV E tNil tk) := by
  refine ⟨fun pins s σ H Q I h => wpAny_Call_Name_kw (ld_glob I hg hm ?_ hdb)⟩
  refine PySem.W.callWith_KW0 (h₀ := X.base) I.ok.mod.kin hk hall ?_ hpl
  refine thn (hkw.run pos pins s σ H _ I h) fun ws s2 ⟨zs, H2, I2, rz, q2⟩ => ⟨I2.kIn, ?_⟩
  rw [hks]
  have r2 := hb.rel (vs := []) (us := []) .nil rz
  have hl : (g [] ws).length = ps.length := by rw [← r2.length]; exact F.len _ _ _ _ q2
  exact runG (args := ⟨[] ++ [], ks.zip ws⟩) F hgd hr hx I2 (hb.to s2 [] ws I2.kIn hl) r2 q2
end

/-! ### the law's end -/
section
variable {P : Program} {w : World} {K : PySem.W.Frag} {mg mb : Str → Option Value} {CX : CXT} {k : Nat} {fa a : Addr} {fd : FuncData} {x : Str} {sp : Sp} {s₁ : Shared} {vs : List Value} {ns : List Int}
/-- the call of the law over one abstract heap -/
theorem lawG_at {H : Hp} (KX : K.In s₁.heap) (hns : s₁.heap.Ns mainGlobals mg) (hb : s₁.heap.Ns builtinsNs mb) (hbb : ∀ x : Str, x ≠ "__name__" → mb x = bootBuiltins x) (hlim : s₁.heap.NoLimit) (hg : s₁.gens = #[])
    (ha : s₁.heap.get? a = some { cls := .type "list", data := .seq vs.toArray }) (hr : Room k callerA)
    (F : ∀ base : Heap, K.In base → base.Ns mainGlobals mg → FnG P w K mg base CX k fa fd [x] sp) (hbind : ∀ (s : Shared) (u : Value), BindsTo s fd ⟨[u], []⟩ [(x, u)])
    (hCX : ∀ H e s', CX [] H s₁ (fun _ _ _ => False) e s' → False) (hO : Only H) (hok : HOk P w H s₁.heap) (hA : ∀ b, H b ≠ none → b = a) (hK : H a ≠ none → K.lookup a = none)
    (hsp : sp [.ref a] H (fun v _ => v = .bl true) fun _ _ _ => False) :
    codeAny (model P w) callerA (.call (.ref fa) ⟨[.ref a], []⟩) (fun r s' => r = .ok (.ret (.bool true)) ∧ OldK s₁.heap s'.heap ∧ s'.os = s₁.os ∧ AllBare s'.gens) s₁ := by
  have base_of : ∀ {b : Addr} {o : Obj}, s₁.heap.get? b = some o → H b = none → (hidT s₁.heap H).get? b = some o := fun e n => hidT_get e n
  have other : ∀ {b : Addr} {o : Obj}, s₁.heap.get? b = some o → (∀ vs n, o.data ≠ .seq vs n) → H b = none := fun {b o} e d => by
    match q : H b with
    | none => rfl
    | some u =>
      have e' : b = a := hA b (by rw [q]; exact nofun)
      rw [e', ha] at e
      cases e
      exact absurd rfl (d _ _)
  have nsK : ∀ {b : Addr} {m : Str → Option Value}, s₁.heap.Ns b m → (hidT s₁.heap H).Ns b m := fun {b m} ⟨o, es, ep, e, d, r⟩ =>
    ⟨o, es, ep, base_of e (other e fun _ _ z => by rw [d] at z; cases z), d, r⟩
  have hKb : K.In (hidT s₁.heap H) := fun b o e => base_of (KX b o e) (by
    match q : H b with
    | none => rfl
    | some u =>
      have e' : b = a := hA b (by rw [q]; exact nofun)
      rw [e', hK (by rw [← e', q]; exact nofun)] at e
      cases e)
  have hM : Mod K mg (hidT s₁.heap H) := ⟨hKb, nsK hns, ⟨mb, nsK hb, hbb⟩, let ⟨mc, h1, h2⟩ := hlim; ⟨mc, nsK h1, h2⟩⟩
  have e0 : Env0 P w K mg (hidT s₁.heap H) callerA [] s₁ H := ⟨rfl, hM, fun b o e => of_hidT e, Nat.le_of_eq (hidT_size _ _), trivial, fun b z => absurd (show b ∈ ([] : List Addr) from z) (by simp), hok, .of_eq hg⟩
  refine codeAny_mono ((F _ hKb (nsK hns)).go callerA [] s₁ H ⟨[.ref a], []⟩ [.ref a] [.ref a] _ _ rfl hr e0 (hbind s₁ (.ref a)) (.cons rfl .nil) hsp) fun r s' h => ?_
  match r, h with
  | .error e, h => exact (hCX H e s' h).elim
  | .ok .next, h => exact h.elim
  | .ok .brk, h => exact h.elim
  | .ok .cont, h => exact h.elim
  | .ok (.ret u), ⟨v, H', os, bare, un, hok', r', q⟩ =>
    obtain rfl : v = .bl true := q
    obtain rfl : u = Value.bool true := r'
    refine ⟨rfl, OldK.of_keep fun b o e => ?_, os, bare⟩
    rcases hO b with z | ⟨ob, xs, z⟩
    · exact un.keep b o e z (fun y => absurd (show b ∈ ([] : List Addr) from y) (by simp)) (by simp)
    · obtain ⟨e1, _⟩ := hok b _ z
      obtain ⟨e2, _⟩ := hok' b _ (un.frzs b ob _ z)
      rw [e] at e1
      cases e1
      exact e2
theorem lawG (KX : K.In s₁.heap) (hns : s₁.heap.Ns mainGlobals mg) (hb : s₁.heap.Ns builtinsNs mb) (hbb : ∀ x : Str, x ≠ "__name__" → mb x = bootBuiltins x) (hlim : s₁.heap.NoLimit) (hg : s₁.gens = #[])
    (ha : s₁.heap.get? a = some { cls := .type "list", data := .seq vs.toArray }) (hi : IntsAre vs ns) (hl : ns.length ≤ sizeLine) (hr : Room k callerA)
    (F : ∀ base : Heap, K.In base → base.Ns mainGlobals mg → FnG P w K mg base CX k fa fd [x] sp) (hbind : ∀ (s : Shared) (u : Value), BindsTo s fd ⟨[u], []⟩ [(x, u)])
    (hCX : ∀ H e s', CX [] H s₁ (fun _ _ _ => False) e s' → False)
    (hsp : ∀ H : Hp, Only H → SqL K H a (ns.map V.int) → sp [.ref a] H (fun v _ => v = .bl true) fun _ _ _ => False) :
    codeAny (model P w) callerA (.call (.ref fa) ⟨[.ref a], []⟩) (fun r s' => r = .ok (.ret (.bool true)) ∧ OldK s₁.heap s'.heap ∧ s'.os = s₁.os ∧ AllBare s'.gens) s₁ := by
  have rv := vals_ints hi
  match hk : K.lookup a with
  | some o =>
    have e := KX a o hk
    rw [ha] at e
    cases e
    have hS : SqL K (fun _ => none) a (ns.map V.int) := .inr ⟨_, vs.toArray, _, hk, rfl, rfl, rfl, by rw [List.size_toArray, hi.length]; exact hl, by simpa using rv⟩
    exact lawG_at (H := fun _ => none) KX hns hb hbb hlim hg ha hr F hbind hCX (fun _ => .inl rfl) (fun b u z => nomatch z) (fun b z => absurd rfl z) (fun z => absurd rfl z) (hsp _ (fun _ => .inl rfl) hS)
  | none =>
    let H : Hp := fun b => if b = a then some (.frz { cls := .type "list", data := .seq vs.toArray } (.lst (ns.map V.int))) else none
    have at_a : H a = some (.frz { cls := .type "list", data := .seq vs.toArray } (.lst (ns.map V.int))) := if_pos rfl
    have off : ∀ b, b ≠ a → H b = none := fun b hb => if_neg hb
    have hO : Only H := fun b => (Classical.em (b = a)).elim (fun z => .inr ⟨_, _, z ▸ at_a⟩) fun z => .inl (off b z)
    refine lawG_at (H := H) KX hns hb hbb hlim hg ha hr F hbind hCX hO (fun b u z => ?_) (fun b z => Classical.byContradiction fun y => z (off b y)) (fun _ => hk) (hsp _ hO (.inl (.inr ⟨_, at_a⟩)))
    by_cases y : b = a
    · subst y
      rw [at_a] at z
      cases z
      exact ⟨ha, by rw [List.length_map]; exact hl, vs, _, rv, ha⟩
    · rw [off b y] at z
      cases z
end
/-- the goal that k_head leaves, from the law's promise -/
theorem walkG {l : PySem.W.OpenLaw} {n k : Nat} {q : Program} {loose : List Str} {XP : (Str → Option Value) → Heap → Prop} {YP : World → Heap → Prop} {d : DefRec} {K : Params → PySem.W.Frag} {CX : World → CXT} {sp : World → Sp} {x : Str}
    (hn : l.most = some n) (hn2 : n ≤ sizeLine) (hdf : d.params.defaults = []) (hr : Room k callerA) (hY : ∀ (w : World) (h : Heap), YP w h → (K w.params).In h)
    (F : ∀ (w : World) (mg : Str → Option Value) (fa : Addr) (h : Heap), (K w.params).In h → h.Ns mainGlobals mg → mg d.name = some (.ref fa) →
      ∃ fd : FuncData, (∀ (s : Shared) (u : Value), BindsTo s fd ⟨[u], []⟩ [(x, u)]) ∧ ∀ base : Heap, (K w.params).In base → base.Ns mainGlobals mg → FnG l.prog w (K w.params) mg base (CX w) k fa fd [x] (sp w))
    (hsp : ∀ (w : World) (H : Hp) (a : Addr) (ns : List Int), ns.length ≤ n → Only H → SqL (K w.params) H a (ns.map V.int) → sp w [.ref a] H (fun v _ => v = .bl true) fun _ _ _ => False)
    (hCX : ∀ (w : World) (H : Hp) (s : Shared) (e : Value) (s' : Shared), CX w [] H s (fun _ _ _ => False) e s' → False) :
    PySem.W.WalkO q loose XP YP l.row.toRowW d [] (fun f vs => PySem.call f vs) :=
  Att.attach_call hn hdf fun w s₀ s₁ mg mb fa o pm cd doc a vs ns G Y ho hd hcd hmg hobj hints hlen hg => by
    have KX := hY w _ Y
    obtain ⟨fd, hb, hF⟩ := F w mg fa _ KX G.T.g hmg
    exact lawG KX G.T.g G.T.b G.T.builtins G.T.nolimit hg hobj hints (Nat.le_trans hlen hn2) hr hF hb (fun H e s' => hCX w H s₁ e s') fun H hO hS => hsp w H a ns hlen hO hS
end DL

set_option Elab.async false
set_option linter.all false
set_option maxRecDepth 100000
set_option maxHeartbeats 2000000
/-! D1: values as trees, and readings over them. -/
namespace DL
open PySem L2

/-- a value as a tree; deck: the drawing deck of a law (its one name that varies) -/
inductive Dv where
  | non | bl (b : Bool) | int (i : Int) | str (x : Str)
  | tup (ds : List Dv) | lst (ds : List Dv) | dic (es : List (Key × Dv)) | dct (es : List (List Key × Dv))
  | ins (C : Str) (fs : List (Str × Dv)) | deck (kb : Str) | scr (ns : List Int)

structure Dek where
  dk : Addr
  cl : Addr
  kb : Str
/-- the deck, and what the names of the top mean -/
structure Wd where
  dek : Option Dek
  cm : Str → Option Value
def Dk (wd : Wd) (a : Addr) : Prop := ∃ p, wd.dek = some p ∧ (a = p.dk ∨ a = p.cl)
def lim : Nat := 1099511627776
/-- the deck stands, n more draws are free -/
def WOk (wd : Wd) (n : Nat) (H : Hp) : Prop := ∀ p, wd.dek = some p → p.dk ≠ p.cl ∧ ∃ (m k : Int) (cs : List Int),
  H p.dk = some (.dK [(Sum.inr "cells", .ref p.cl), (Sum.inr p.kb, .int m), (Sum.inr "draws", .int k)]) ∧ H p.cl = some (.lst (cs.map V.int)) ∧ cs.length + n ≤ 8000000 ∧ 0 ≤ m ∧ m < 4294967296 ∧ 0 ≤ k ∧ k + n ≤ lim

/-- tuples and lists that are read: of the heap and not banned, or written by the top -/
def KT (K : PySem.W.Frag) (a : Addr) (xs : List V) : Prop := ∃ (o : Obj) (its : Array Value) (n : Nat), K.lookup a = some o ∧ o.cls = .type "tuple" ∧ o.data = .seq its n ∧ its.size ≤ sizeLine ∧ Vals xs its.toList
def KL (K : PySem.W.Frag) (a : Addr) (xs : List V) : Prop := ∃ (o : Obj) (its : Array Value) (n : Nat), K.lookup a = some o ∧ o.cls = .type "list" ∧ o.dict = none ∧ o.data = .seq its n ∧ its.size ≤ sizeLine ∧ Vals xs its.toList
def QS (B : Addr → Prop) (K : PySem.W.Frag) (H : Hp) (a : Addr) (xs : List V) : Prop := (¬ B a ∧ Rd H a (.lst xs)) ∨ KL K a xs
theorem QS.sq {B : Addr → Prop} {K : PySem.W.Frag} {H : Hp} {a : Addr} {xs : List V} (h : QS B K H a xs) : SqL K H a xs := h.elim (fun z => .inl z.2) .inr
def QT (B : Addr → Prop) (K : PySem.W.Frag) (H : Hp) (a : Addr) (xs : List V) : Prop := ¬ B a ∧ H a = some (.tup xs)
def QL (B : Addr → Prop) (K : PySem.W.Frag) (H : Hp) (a : Addr) (xs : List V) : Prop := ¬ B a ∧ H a = some (.lst xs)
theorem QT.sq {B : Addr → Prop} {K : PySem.W.Frag} {H : Hp} {a : Addr} {xs : List V} (h : QT B K H a xs) : SqT K H a xs := .inl (.inl h.2)
theorem QL.sq {B : Addr → Prop} {K : PySem.W.Frag} {H : Hp} {a : Addr} {xs : List V} (h : QL B K H a xs) : SqL K H a xs := .inl (.inl h.2)

/-- the attributes of the program's classes -/
def flds (cn : Str) : List Str :=
  if cn = "Cloth" then ["picks", "ends"] else if cn = "Loom" then ["shafts", "threading", "lifts"] else if cn = "Chart" then ["letters", "moves", "ends", "next"]
  else if cn = "Picture" then ["rows", "ends"] else if cn = "Growth" then ["loom", "start", "rules", "by_letter"] else if cn = "Element" then ["loom", "picks", "pairs", "loose", "runs"] else []
structure ClsOk (K : PySem.W.Frag) (C : Addr) (cn : Str) : Prop where
  c : Cls K C
  n : ∀ f ∈ flds cn, NoAttr K C f
mutual
inductive Dt (wd : Wd) (B : Addr → Prop) (K : PySem.W.Frag) (H : Hp) : V → Dv → Prop
  | non : Dt wd B K H .non .non
  | bl (b : Bool) : Dt wd B K H (.bl b) (.bl b)
  | int (i : Int) : Dt wd B K H (.int i) (.int i)
  | str (x : Str) : Dt wd B K H (.str x) (.str x)
  | tup {a : Addr} {xs : List V} {ds : List Dv} : QT B K H a xs → DtA wd B K H xs ds → Dt wd B K H (.ref a) (.tup ds)
  | lst {a : Addr} {xs : List V} {ds : List Dv} : QL B K H a xs → DtA wd B K H xs ds → Dt wd B K H (.ref a) (.lst ds)
  | dic {a : Addr} {kvs : List (Key × V)} {es : List (Key × Dv)} : ¬ B a → H a = some (.dK kvs) → DtK wd B K H kvs es → Dt wd B K H (.ref a) (.dic es)
  | dct {a : Addr} {kvs : List (List Key × V)} {es : List (List Key × Dv)} : ¬ B a → H a = some (.dT kvs) → DtL wd B K H kvs es → Dt wd B K H (.ref a) (.dct es)
  | ins {cn : Str} {a C dx : Addr} {fs : List (Str × V)} {es : List (Str × Dv)} : wd.cm cn = some (.ref C) → ClsOk K C cn → ¬ B a → H a = some (.ins C dx fs) → DtF wd B K H fs es → Dt wd B K H (.ref a) (.ins cn es)
  | deck {p : Dek} : wd.dek = some p → Dt wd B K H (.ref p.dk) (.deck p.kb)
  | scr {a : Addr} {ns : List Int} : QS B K H a (ns.map V.int) → Dt wd B K H (.ref a) (.scr ns)
inductive DtA (wd : Wd) (B : Addr → Prop) (K : PySem.W.Frag) (H : Hp) : List V → List Dv → Prop
  | nil : DtA wd B K H [] []
  | cons {v : V} {d : Dv} {vs : List V} {ds : List Dv} : Dt wd B K H v d → DtA wd B K H vs ds → DtA wd B K H (v :: vs) (d :: ds)
inductive DtK (wd : Wd) (B : Addr → Prop) (K : PySem.W.Frag) (H : Hp) : List (Key × V) → List (Key × Dv) → Prop
  | nil : DtK wd B K H [] []
  | cons {k : Key} {v : V} {d : Dv} {vs : List (Key × V)} {ds : List (Key × Dv)} : Dt wd B K H v d → DtK wd B K H vs ds → DtK wd B K H ((k, v) :: vs) ((k, d) :: ds)
inductive DtL (wd : Wd) (B : Addr → Prop) (K : PySem.W.Frag) (H : Hp) : List (List Key × V) → List (List Key × Dv) → Prop
  | nil : DtL wd B K H [] []
  | cons {k : List Key} {v : V} {d : Dv} {vs : List (List Key × V)} {ds : List (List Key × Dv)} : Dt wd B K H v d → DtL wd B K H vs ds → DtL wd B K H ((k, v) :: vs) ((k, d) :: ds)
inductive DtF (wd : Wd) (B : Addr → Prop) (K : PySem.W.Frag) (H : Hp) : List (Str × V) → List (Str × Dv) → Prop
  | nil : DtF wd B K H [] []
  | cons {k : Str} {v : V} {d : Dv} {vs : List (Str × V)} {ds : List (Str × Dv)} : Dt wd B K H v d → DtF wd B K H vs ds → DtF wd B K H ((k, v) :: vs) ((k, d) :: ds)
end

section
variable {wd : Wd} {B B' : Addr → Prop} {K : PySem.W.Frag} {H H' : Hp}
theorem rd_move {a : Addr} {u : HO} (hp : ∀ a o, H a = some o → ¬ B a → H' a = some o) (hb : ¬ B a) (h : Rd H a u) : Rd H' a u := h.elim (fun z => .inl (hp _ _ z hb)) fun ⟨o, z⟩ => .inr ⟨o, hp _ _ z hb⟩
theorem rd_some {a : Addr} {u : HO} (h : Rd H a u) : H a ≠ none := h.elim (fun z => by rw [z]; exact nofun) fun ⟨o, z⟩ => by rw [z]; exact nofun
mutual
theorem Dt.move (hp : ∀ a o, H a = some o → ¬ B a → H' a = some o) (hb : ∀ a, B' a → B a ∨ H a = none) : ∀ (d : Dv) (v : V), Dt wd B K H v d → Dt wd B' K H' v d
  | .non, _, h => by cases h; exact .non
  | .bl b, _, h => by cases h; exact .bl b
  | .int i, _, h => by cases h; exact .int i
  | .str x, _, h => by cases h; exact .str x
  | .tup ds, _, h => by
    cases h with
    | tup q r =>
      refine .tup ?_ (DtA.move hp hb ds _ r)
      exact ⟨fun x => (hb _ x).elim q.1 (by rw [q.2]; exact nofun), hp _ _ q.2 q.1⟩
  | .lst ds, _, h => by
    cases h with
    | lst q r => exact .lst ⟨fun x => (hb _ x).elim q.1 (by rw [q.2]; exact nofun), hp _ _ q.2 q.1⟩ (DtA.move hp hb ds _ r)
  | .dic es, _, h => by
    cases h with
    | dic z y r => exact .dic (fun x => (hb _ x).elim z (by rw [y]; exact nofun)) (hp _ _ y z) (DtK.move hp hb es _ r)
  | .dct es, _, h => by
    cases h with
    | dct z y r => exact .dct (fun x => (hb _ x).elim z (by rw [y]; exact nofun)) (hp _ _ y z) (DtL.move hp hb es _ r)
  | .ins C es, _, h => by
    cases h with
    | ins e k z y r => exact .ins e k (fun x => (hb _ x).elim z (by rw [y]; exact nofun)) (hp _ _ y z) (DtF.move hp hb es _ r)
  | .deck kb, _, h => by
    cases h with
    | deck e => exact .deck e
  | .scr ns, _, h => by
    cases h with
    | scr q => exact .scr (q.imp (fun ⟨z, y⟩ => ⟨fun x => (hb _ x).elim z (rd_some y), rd_move hp z y⟩) id)
theorem DtA.move (hp : ∀ a o, H a = some o → ¬ B a → H' a = some o) (hb : ∀ a, B' a → B a ∨ H a = none) : ∀ (ds : List Dv) (vs : List V), DtA wd B K H vs ds → DtA wd B' K H' vs ds
  | [], _, h => by cases h; exact .nil
  | d :: ds, _, h => by
    cases h with
    | cons a r => exact .cons (Dt.move hp hb d _ a) (DtA.move hp hb ds _ r)
theorem DtK.move (hp : ∀ a o, H a = some o → ¬ B a → H' a = some o) (hb : ∀ a, B' a → B a ∨ H a = none) : ∀ (ds : List (Key × Dv)) (vs : List (Key × V)), DtK wd B K H vs ds → DtK wd B' K H' vs ds
  | [], _, h => by cases h; exact .nil
  | (k, d) :: ds, _, h => by
    cases h with
    | cons a r => exact .cons (Dt.move hp hb d _ a) (DtK.move hp hb ds _ r)
theorem DtL.move (hp : ∀ a o, H a = some o → ¬ B a → H' a = some o) (hb : ∀ a, B' a → B a ∨ H a = none) : ∀ (ds : List (List Key × Dv)) (vs : List (List Key × V)), DtL wd B K H vs ds → DtL wd B' K H' vs ds
  | [], _, h => by cases h; exact .nil
  | (k, d) :: ds, _, h => by
    cases h with
    | cons a r => exact .cons (Dt.move hp hb d _ a) (DtL.move hp hb ds _ r)
theorem DtF.move (hp : ∀ a o, H a = some o → ¬ B a → H' a = some o) (hb : ∀ a, B' a → B a ∨ H a = none) : ∀ (ds : List (Str × Dv)) (vs : List (Str × V)), DtF wd B K H vs ds → DtF wd B' K H' vs ds
  | [], _, h => by cases h; exact .nil
  | (k, d) :: ds, _, h => by
    cases h with
    | cons a r => exact .cons (Dt.move hp hb d _ a) (DtF.move hp hb ds _ r)
end
end

/-- what a def may do to the heap: all but the deck stays -/
def Ext0 (wd : Wd) (H H' : Hp) : Prop := ∀ a o, H a = some o → ¬ Dk wd a → H' a = some o
theorem Ext0.refl (wd : Wd) (H : Hp) : Ext0 wd H H := fun _ _ h _ => h
theorem Ext0.trans {wd : Wd} {H H1 H2 : Hp} (a : Ext0 wd H H1) (b : Ext0 wd H1 H2) : Ext0 wd H H2 := fun x o h z => b x o (a x o h z) z
theorem Ext0.same {wd : Wd} {H H' : Hp} (h : Same H H') : Ext0 wd H H' := fun a o e _ => h a o e
theorem same_new {H : Hp} {p : Addr} (h : H p = none) (o : HO) : Same H (upd H p o) := fun b u q => by rw [upd_ne (ne_of_none q h)]; exact q
theorem WOk.same {wd : Wd} {n : Nat} {H H' : Hp} (h : WOk wd n H) (s : Same H H') : WOk wd n H' := fun p e => by
  obtain ⟨ne, m, k, cs, h1, h2, r⟩ := h p e
  exact ⟨ne, m, k, cs, s _ _ h1, s _ _ h2, r⟩
theorem WOk.live {wd : Wd} {n : Nat} {H : Hp} (h : WOk wd n H) {a : Addr} (k : Dk wd a) : H a ≠ none := by
  obtain ⟨p, e, z⟩ := k
  obtain ⟨ne, m, k, cs, h1, h2, r⟩ := h p e
  rcases z with rfl | rfl
  · rw [h1]; exact nofun
  · rw [h2]; exact nofun
theorem WOk.less {wd : Wd} {n m : Nat} {H : Hp} (h : WOk wd n H) (l : m ≤ n) : WOk wd m H := fun p e => by
  obtain ⟨ne, a, k, cs, h1, h2, h3, h4, h5, h6, h7⟩ := h p e
  exact ⟨ne, a, k, cs, h1, h2, by omega, h4, h5, h6, by omega⟩

/-- a local: a tree that never changes, or an object of this def's alone -/
inductive Ob where
  | lst (ds : List Dv) | dic (es : List (Key × Dv)) | dct (es : List (List Key × Dv)) | ins (C : Str) (fs : List (Str × Dv))
inductive Dx where
  | fz (d : Dv) | own (o : Ob)
abbrev Env := List (Option Dx)
def Own (wd : Wd) (B : Addr → Prop) (K : PySem.W.Frag) (H : Hp) (a : Addr) : Ob → Prop
  | .lst ds => ∃ xs, H a = some (.lst xs) ∧ DtA wd B K H xs ds
  | .dic es => ∃ kvs, H a = some (.dK kvs) ∧ DtK wd B K H kvs es
  | .dct es => ∃ kvs, H a = some (.dT kvs) ∧ DtL wd B K H kvs es
  | .ins cn es => ∃ C dx fs, wd.cm cn = some (.ref C) ∧ ClsOk K C cn ∧ H a = some (.ins C dx fs) ∧ DtF wd B K H fs es

/-- from one state to a later one: what was not banned stays, what is banned anew was free -/
structure Step (B : Addr → Prop) (H : Hp) (B' : Addr → Prop) (H' : Hp) : Prop where
  keep : ∀ a o, H a = some o → ¬ B a → H' a = some o
  ban : ∀ a, B' a → B a ∨ H a = none
theorem Step.refl (B : Addr → Prop) (H : Hp) : Step B H B H := ⟨fun _ _ h _ => h, fun _ h => .inl h⟩
theorem Step.trans {B B1 B2 : Addr → Prop} {H H1 H2 : Hp} (a : Step B H B1 H1) (b : Step B1 H1 B2 H2) : Step B H B2 H2 where
  keep := fun x o h z => b.keep x o (a.keep x o h z) fun y => (a.ban x y).elim z (by rw [h]; exact nofun)
  ban := fun x h => by
    rcases b.ban x h with y | y
    · exact a.ban x y
    · by_cases z : B x
      · exact .inl z
      · match q : H x with
        | none => exact .inr rfl
        | some o => rw [a.keep x o q z] at y; cases y
/-- what stays through a def's body: the deck, what the caller bans, the written part, the heap at the entry -/
structure Cn where
  wd : Wd
  B : Addr → Prop
  K : PySem.W.Frag
  He : Hp
  lv : ∀ a, B a → He a ≠ none
  B0 : Addr → Prop := B
  H0 : Hp := He
  sf : Addr := 0
structure Rel (c : Cn) (B : Addr → Prop) (n : Nat) (H : Hp) (σ : L2.St) (env : DL.Env) : Prop where
  sub : ∀ a, c.B a → B a
  stp : Step c.B0 c.H0 B H
  len : σ.length = env.length
  wok : WOk c.wd n H
  dk : ∀ a, Dk c.wd a → B a
  live : ∀ a, B a → H a ≠ none
  ent : Ext0 c.wd c.He H
  fz : ∀ (i : Nat) (d : Dv), env[i]? = some (some (.fz d)) → ∃ v, σ[i]? = some (some v) ∧ Dt c.wd B c.K H v d
  own : ∀ (i : Nat) (o : Ob), env[i]? = some (some (.own o)) → ∃ a, σ[i]? = some (some (.ref a)) ∧ B a ∧ ¬ Dk c.wd a ∧ c.He a = none ∧ Own c.wd B c.K H a o
  inj : ∀ (i j : Nat) (o u : Ob) (a : Addr), env[i]? = some (some (.own o)) → env[j]? = some (some (.own u)) → σ[i]? = some (some (.ref a)) → σ[j]? = some (some (.ref a)) → i = j
  slf : ∀ (i : Nat) (cn : Str) (es : List (Str × Dv)), env[i]? = some (some (.own (.ins cn es))) → σ[i]? = some (some (.ref c.sf))

section
variable {c : Cn} {B B' : Addr → Prop} {n m : Nat} {H H' : Hp} {σ : L2.St} {env : DL.Env}
theorem Own.move {wd : Wd} {K : PySem.W.Frag} (hp : ∀ a o, H a = some o → ¬ B a → H' a = some o) (hb : ∀ a, B' a → B a ∨ H a = none) {a : Addr} (ha : ∀ o, H a = some o → H' a = some o) : ∀ {o : Ob}, Own wd B K H a o → Own wd B' K H' a o
  | .lst ds, ⟨xs, h, r⟩ => ⟨xs, ha _ h, DtA.move hp hb ds _ r⟩
  | .dic es, ⟨xs, h, r⟩ => ⟨xs, ha _ h, DtK.move hp hb es _ r⟩
  | .dct es, ⟨xs, h, r⟩ => ⟨xs, ha _ h, DtL.move hp hb es _ r⟩
  | .ins cn es, ⟨C, dx, xs, e, k, h, r⟩ => ⟨C, dx, xs, e, k, ha _ h, DtF.move hp hb es _ r⟩
theorem Rel.keeps (R : Rel c B n H σ env) (e : Ext0 c.wd H H') : ∀ a o, H a = some o → ¬ B a → H' a = some o := fun a o h z => e a o h fun y => z (R.dk a y)
theorem Rel.dt (R : Rel c B n H σ env) (e : Ext0 c.wd H H') {v : V} {d : Dv} (h : Dt c.wd B c.K H v d) : Dt c.wd B c.K H' v d := Dt.move (R.keeps e) (fun _ z => .inl z) d v h
theorem Rel.dta (R : Rel c B n H σ env) (e : Ext0 c.wd H H') {v : List V} {d : List Dv} (h : DtA c.wd B c.K H v d) : DtA c.wd B c.K H' v d := DtA.move (R.keeps e) (fun _ z => .inl z) d v h
theorem Rel.ext (R : Rel c B n H σ env) (e : Ext0 c.wd H H') (w : WOk c.wd m H') : Rel c B m H' σ env where
  sub := R.sub
  stp := R.stp.trans ⟨R.keeps e, fun _ h => .inl h⟩
  len := R.len
  wok := w
  dk := R.dk
  live := fun a h => by
    by_cases z : Dk c.wd a
    · exact w.live z
    · match q : H a with
      | none => exact absurd q (R.live a h)
      | some o => rw [e a o q z]; exact nofun
  ent := R.ent.trans e
  fz := fun i d h => let ⟨v, h1, h2⟩ := R.fz i d h; ⟨v, h1, R.dt e h2⟩
  own := fun i o h => let ⟨a, h1, h2, h3, h4, h5⟩ := R.own i o h; ⟨a, h1, h2, h3, h4, Own.move (R.keeps e) (fun _ z => .inl z) (fun o q => e a o q h3) h5⟩
  inj := R.inj
  slf := R.slf
theorem Rel.same (R : Rel c B n H σ env) (e : Same H H') : Rel c B n H' σ env := R.ext (Ext0.same e) (R.wok.same e)
theorem Rel.less (R : Rel c B n H σ env) (l : m ≤ n) : Rel c B m H σ env := { R with wok := R.wok.less l }
theorem Rel.new (R : Rel c B n H σ env) {p : Addr} (h : H p = none) : ¬ B p := fun z => R.live p z h
theorem Rel.newHe (R : Rel c B n H σ env) {p : Addr} (h : H p = none) : c.He p = none := by
  match q : c.He p with
  | none => rfl
  | some o => rw [R.ent p o q fun z => R.new h (R.dk p z)] at h; cases h
/-- a store of a tree -/
theorem Rel.set (R : Rel c B n H σ env) (i : Nat) {v : V} {d : Dv} (h : Dt c.wd B c.K H v d) : Rel c B n H (σ.set i (some v)) (env.set i (some (.fz d))) where
  sub := R.sub
  stp := R.stp
  len := by rw [List.length_set, List.length_set, R.len]
  wok := R.wok
  dk := R.dk
  live := R.live
  ent := R.ent
  fz := fun j e hj => by
    by_cases q : i = j
    · subst q
      have l : i < env.length := by
        have := (List.getElem?_eq_some_iff.mp hj).1
        rwa [List.length_set] at this
      rw [List.getElem?_set_self l] at hj
      cases hj
      exact ⟨v, List.getElem?_set_self (by rw [R.len]; exact l), h⟩
    · rw [List.getElem?_set_ne q] at hj ⊢
      exact R.fz j e hj
  own := fun j o hj => by
    by_cases q : i = j
    · subst q
      have l : i < env.length := by
        have := (List.getElem?_eq_some_iff.mp hj).1
        rwa [List.length_set] at this
      rw [List.getElem?_set_self l] at hj
      cases hj
    · rw [List.getElem?_set_ne q] at hj ⊢
      exact R.own j o hj
  inj := fun j k o u a hj hk sj sk => by
    have no : ∀ {j : Nat} {o : Ob}, (env.set i (some (.fz d)))[j]? = some (some (.own o)) → i ≠ j := fun {j o} hj q => by
      subst q
      have l : i < env.length := by
        have := (List.getElem?_eq_some_iff.mp hj).1
        rwa [List.length_set] at this
      rw [List.getElem?_set_self l] at hj
      cases hj
    have nj := no hj
    have nk := no hk
    rw [List.getElem?_set_ne nj] at hj sj
    rw [List.getElem?_set_ne nk] at hk sk
    exact R.inj j k o u a hj hk sj sk
  slf := fun j cn es hj => by
    by_cases q : i = j
    · subst q
      have l : i < env.length := by
        have := (List.getElem?_eq_some_iff.mp hj).1
        rwa [List.length_set] at this
      rw [List.getElem?_set_self l] at hj
      cases hj
    · rw [List.getElem?_set_ne q] at hj ⊢
      exact R.slf j cn es hj
end
end DL

set_option Elab.async false
set_option linter.all false
set_option maxRecDepth 100000
set_option maxHeartbeats 2000000
/-! D2: the judgements over trees, expressions and statements. -/
namespace DL
open PySem L2

/-- an expression comes to a tree; a test to a Bool; arguments to trees -/
def ED (c : Cn) (t : TE) (n : Nat) (env : DL.Env) (R : Nat → Dv → Prop) : Prop := ∀ B H σ, Rel c B n H σ env → ∀ Q : VK,
  (∀ v H' n' d, Rel c B n' H' σ env → Ext0 c.wd H H' → Dt c.wd B c.K H' v d → R n' d → Q v H') → t σ H Q
def TD (c : Cn) (t : TT) (n : Nat) (env : DL.Env) (R : Nat → Bool → Prop) : Prop := ∀ B H σ, Rel c B n H σ env → ∀ Q : Bool → Hp → Prop,
  (∀ b H' n', Rel c B n' H' σ env → Ext0 c.wd H H' → R n' b → Q b H') → t σ H Q
def AD (c : Cn) (t : TA) (n : Nat) (env : DL.Env) (R : Nat → List Dv → Prop) : Prop := ∀ B H σ, Rel c B n H σ env → ∀ Q : List V → Hp → Prop,
  (∀ vs H' n' ds, Rel c B n' H' σ env → Ext0 c.wd H H' → DtA c.wd B c.K H' vs ds → R n' ds → Q vs H') → t σ H Q
/-- an operation on values, over trees: nothing that stands changes -/
def OD (c : Cn) (r : R2) (d e : Dv) (R : Dv → Prop) : Prop := ∀ B H x y, (∀ a, B a → H a ≠ none) → Dt c.wd B c.K H x d → Dt c.wd B c.K H y e → ∀ Q : VK,
  (∀ v H' z, Same H H' → Dt c.wd B c.K H' v z → R z → Q v H') → r x y H Q
def UD (c : Cn) (r : V → Hp → VK → Prop) (d : Dv) (R : Dv → Prop) : Prop := ∀ B H x, (∀ a, B a → H a ≠ none) → Dt c.wd B c.K H x d → ∀ Q : VK,
  (∀ v H' z, Same H H' → Dt c.wd B c.K H' v z → R z → Q v H') → r x H Q
def CD (c : Cn) (r : List V → Hp → VK → Prop) (ds : List Dv) (R : Dv → Prop) : Prop := ∀ B H xs, (∀ a, B a → H a ≠ none) → DtA c.wd B c.K H xs ds → ∀ Q : VK,
  (∀ v H' z, Same H H' → Dt c.wd B c.K H' v z → R z → Q v H') → r xs H Q

section
variable {c : Cn} {n : Nat} {env : DL.Env} {R : Nat → Dv → Prop} {ta tb te : TE} {tt : TT} {r : R2}
theorem ed_mono {R' : Nat → Dv → Prop} (h : ED c te n env R) (k : ∀ n d, R n d → R' n d) : ED c te n env R' := fun B H σ r Q q => h B H σ r Q fun v H' n' d a b e f => q v H' n' d a b e (k _ _ f)
theorem ed_var {i : Nat} {d : Dv} (h : env[i]? = some (some (.fz d))) (k : R n d) : ED c (tVar i) n env R := fun B H σ r Q q => by
  obtain ⟨v, e, hd⟩ := r.fz i d h
  exact ⟨v, e, q v H n d r (Ext0.refl _ _) hd k⟩
theorem ed_non (k : R n .non) : ED c (tC .non) n env R := fun B H σ r Q q => q _ H n _ r (Ext0.refl _ _) .non k
theorem ed_bl {b : Bool} (k : R n (.bl b)) : ED c (tC (.bl b)) n env R := fun B H σ r Q q => q _ H n _ r (Ext0.refl _ _) (.bl b) k
theorem ed_int {i : Int} (k : R n (.int i)) : ED c (tC (.int i)) n env R := fun B H σ r Q q => q _ H n _ r (Ext0.refl _ _) (.int i) k
theorem ed_str {x : Str} (k : R n (.str x)) : ED c (tC (.str x)) n env R := fun B H σ r Q q => q _ H n _ r (Ext0.refl _ _) (.str x) k
theorem ed_op (h : ED c ta n env fun n1 d1 => ED c tb n1 env fun n2 d2 => OD c r d1 d2 (R n2)) : ED c (tOp r ta tb) n env R := fun B H σ r Q q =>
  h B H σ r _ fun v H1 n1 d1 r1 e1 h1 k1 => k1 B H1 σ r1 _ fun u H2 n2 d2 r2 e2 h2 k2 => k2 B H2 v u r2.live (r1.dt e2 h1) h2 Q fun z H3 d s3 h3 k3 =>
    q z H3 n2 d (r2.same s3) ((e1.trans e2).trans (Ext0.same s3)) h3 k3
theorem ed_un {r : V → Hp → VK → Prop} (h : ED c ta n env fun n1 d1 => UD c r d1 (R n1)) : ED c (tUn r ta) n env R := fun B H σ r Q q =>
  h B H σ r _ fun v H1 n1 d1 r1 e1 h1 k1 => k1 B H1 v r1.live h1 Q fun z H3 d s3 h3 k3 => q z H3 n1 d (r1.same s3) (e1.trans (Ext0.same s3)) h3 k3
theorem ad_nil {R : Nat → List Dv → Prop} (k : R n []) : AD c tNil n env R := fun B H σ r Q q => q [] H n [] r (Ext0.refl _ _) .nil k
theorem ad_cons {tr : TA} {R : Nat → List Dv → Prop} (h : ED c ta n env fun n1 d => AD c tr n1 env fun n2 ds => R n2 (d :: ds)) : AD c (tCons ta tr) n env R := fun B H σ r Q q =>
  h B H σ r _ fun v H1 n1 d1 r1 e1 h1 k1 => k1 B H1 σ r1 _ fun us H2 n2 ds r2 e2 h2 k2 => q (v :: us) H2 n2 (d1 :: ds) r2 (e1.trans e2) (.cons (r1.dt e2 h1) h2) k2
theorem DtA.length {wd : Wd} {B : Addr → Prop} {K : PySem.W.Frag} {H : Hp} : ∀ {vs : List V} {ds : List Dv}, DtA wd B K H vs ds → vs.length = ds.length
  | _, _, .nil => rfl
  | _, _, .cons _ r => congrArg Nat.succ r.length
theorem DtA.get {wd : Wd} {B : Addr → Prop} {K : PySem.W.Frag} {H : Hp} : ∀ {vs : List V} {ds : List Dv} {i : Nat} {d : Dv}, DtA wd B K H vs ds → ds[i]? = some d → ∃ v, vs[i]? = some v ∧ Dt wd B K H v d
  | _, _, _, _, .nil, h => by simp at h
  | _, _, 0, _, .cons a _, h => by simp at h; subst h; exact ⟨_, rfl, a⟩
  | _, _, i + 1, _, .cons _ r, h => by
    obtain ⟨v, h1, h2⟩ := DtA.get r (i := i) (by simpa using h)
    exact ⟨v, by simpa using h1, h2⟩
theorem DtA.append {wd : Wd} {B : Addr → Prop} {K : PySem.W.Frag} {H : Hp} : ∀ {vs us : List V} {ds es : List Dv}, DtA wd B K H vs ds → DtA wd B K H us es → DtA wd B K H (vs ++ us) (ds ++ es)
  | _, _, _, _, .nil, h => h
  | _, _, _, _, .cons a r, h => .cons a (r.append h)
theorem qt_new {B : Addr → Prop} {K : PySem.W.Frag} {H : Hp} {p : Addr} {xs : List V} (l : ∀ a, B a → H a ≠ none) (h : H p = none) : QT B K (upd H p (.tup xs)) p xs := ⟨fun z => l p z h, upd_same⟩
theorem ql_new {B : Addr → Prop} {K : PySem.W.Frag} {H : Hp} {p : Addr} {xs : List V} (l : ∀ a, B a → H a ≠ none) (h : H p = none) : QL B K (upd H p (.lst xs)) p xs := ⟨fun z => l p z h, upd_same⟩
theorem dta_same {wd : Wd} {B : Addr → Prop} {K : PySem.W.Frag} {H H' : Hp} (s : Same H H') {vs : List V} {ds : List Dv} (h : DtA wd B K H vs ds) : DtA wd B K H' vs ds := DtA.move (fun a o e _ => s a o e) (fun _ z => .inl z) ds vs h
theorem dt_same {wd : Wd} {B : Addr → Prop} {K : PySem.W.Frag} {H H' : Hp} (s : Same H H') {v : V} {d : Dv} (h : Dt wd B K H v d) : Dt wd B K H' v d := Dt.move (fun a o e _ => s a o e) (fun _ z => .inl z) d v h
theorem dtk_same {wd : Wd} {B : Addr → Prop} {K : PySem.W.Frag} {H H' : Hp} (s : Same H H') {vs : List (Key × V)} {ds : List (Key × Dv)} (h : DtK wd B K H vs ds) : DtK wd B K H' vs ds := DtK.move (fun a o e _ => s a o e) (fun _ z => .inl z) ds vs h
theorem ed_tup {t : TA} (h : AD c t n env fun n1 ds => ds.length ≤ sizeLine ∧ R n1 (.tup ds)) : ED c (tTup t) n env R := fun B H σ r Q q =>
  h B H σ r _ fun vs H1 n1 ds r1 e1 h1 ⟨l, k1⟩ => ⟨by rw [h1.length]; exact l, fun p hp => by
    have s := same_new hp (.tup vs)
    exact q _ _ n1 _ (r1.same s) (e1.trans (Ext0.same s)) (.tup (qt_new r1.live hp) (dta_same s h1)) k1⟩
theorem ed_lst {t : TA} (h : AD c t n env fun n1 ds => ds.length ≤ sizeLine ∧ R n1 (.lst ds)) : ED c (tLst t) n env R := fun B H σ r Q q =>
  h B H σ r _ fun vs H1 n1 ds r1 e1 h1 ⟨l, k1⟩ => ⟨by rw [h1.length]; exact l, fun p hp => by
    have s := same_new hp (.lst vs)
    exact q _ _ n1 _ (r1.same s) (e1.trans (Ext0.same s)) (.lst (ql_new r1.live hp) (dta_same s h1)) k1⟩
theorem ed_callB {t : TA} {r : List V → Hp → VK → Prop} (h : AD c t n env fun n1 ds => CD c r ds (R n1)) : ED c (tCB r t) n env R := fun B H σ rl Q q =>
  h B H σ rl _ fun vs H1 n1 ds r1 e1 h1 k1 => k1 B H1 vs r1.live h1 Q fun z H3 d s3 h3 k3 => q z H3 n1 d (r1.same s3) (e1.trans (Ext0.same s3)) h3 k3

/-! ### tests -/
theorem td_test (h : ED c te n env fun n1 d => ∃ b, d = .bl b ∧ R n1 (.bl b)) {R' : Nat → Bool → Prop} (k : ∀ n b, R n (.bl b) → R' n b) : TD c (tTest te) n env R' := fun B H σ r Q q =>
  h B H σ r _ fun v H1 n1 d r1 e1 h1 ⟨b, e, k1⟩ => by
    subst e
    cases h1
    exact ⟨b, rfl, q b H1 n1 r1 e1 (k _ _ k1)⟩
/-- what a value is as a bool -/
def isBl (R : Nat → Bool → Prop) (n : Nat) : Dv → Prop
  | .bl b => R n b
  | _ => False
theorem td_tst {R : Nat → Bool → Prop} (h : ED c te n env fun n1 d => isBl R n1 d) : TD c (tTest te) n env R := fun B H σ r Q q =>
  h B H σ r _ fun v H1 n1 d r1 e1 h1 k1 => by
    cases d <;> try exact k1.elim
    cases h1
    exact ⟨_, rfl, q _ H1 n1 r1 e1 k1⟩
theorem td_b {R : Nat → Bool → Prop} (h : ED c te n env fun n1 d => isBl R n1 d) : TD c (tB te) n env R := td_tst h
theorem td_not {R : Nat → Bool → Prop} (h : TD c tt n env fun n1 b => R n1 (!b)) : TD c (tNot tt) n env R := fun B H σ r Q q => h B H σ r _ fun b H1 n1 r1 e1 k1 => q _ H1 n1 r1 e1 k1
theorem td_and {tu : TT} {R : Nat → Bool → Prop} (h : TD c tt n env fun n1 b => if b = true then TD c tu n1 env R else R n1 false) : TD c (tAnd tt tu) n env R := fun B H σ r Q q => h B H σ r _ fun b H1 n1 r1 e1 k1 => by
  cases b with
  | true => exact iteT ((show TD c tu n1 env R from k1) B H1 σ r1 Q fun b' H2 n2 r2 e2 k2 => q b' H2 n2 r2 (e1.trans e2) k2)
  | false => exact iteF (q false H1 n1 r1 e1 k1)
theorem td_or {tu : TT} {R : Nat → Bool → Prop} (h : TD c tt n env fun n1 b => if b = true then R n1 true else TD c tu n1 env R) : TD c (tOr tt tu) n env R := fun B H σ r Q q => h B H σ r _ fun b H1 n1 r1 e1 k1 => by
  cases b with
  | true => exact iteT (q true H1 n1 r1 e1 k1)
  | false => exact iteF ((show TD c tu n1 env R from k1) B H1 σ r1 Q fun b' H2 n2 r2 e2 k2 => q b' H2 n2 r2 (e1.trans e2) k2)
theorem td_yes {R : Nat → Bool → Prop} (k : R n true) : TD c tYes n env R := fun B H σ r Q q => q true H n r (Ext0.refl _ _) k
/-- the truth of a tree -/
def tru : Dv → Option Bool
  | .non => some false
  | .bl b => some b
  | .int i => some (i != 0)
  | .str x => if x.length ≤ sizeLine then some ((x.length : Int) != 0) else none
  | .tup ds => some (!ds.isEmpty)
  | .lst ds => some (!ds.isEmpty)
  | .dic es => some (!es.isEmpty)
  | _ => none
theorem DtA.empty {wd : Wd} {B : Addr → Prop} {K : PySem.W.Frag} {H : Hp} {vs : List V} {ds : List Dv} (h : DtA wd B K H vs ds) : vs.isEmpty = ds.isEmpty := by cases h <;> rfl
theorem td_tru {R : Nat → Bool → Prop} (h : ED c te n env fun n1 d => ∃ b, tru d = some b ∧ R n1 b) : TD c (fun σ H Q => te σ H fun x H' => ∃ k, TruV c.K x H' k ∧ Q k H') n env R := fun B H σ r Q q =>
  h B H σ r _ fun v H1 n1 d r1 e1 h1 ⟨b, e, k1⟩ => by
    refine ⟨b, ?_, q b H1 n1 r1 e1 k1⟩
    cases h1 with
    | non => cases e; rfl
    | bl b => cases e; rfl
    | int i => cases e; rfl
    | str x =>
      simp only [tru] at e
      split at e
      · cases e; exact ⟨‹_›, rfl⟩
      · cases e
    | tup h2 h3 => cases e; exact .inr (.inl ⟨_, h2.sq, by rw [h3.empty]⟩)
    | lst h2 h3 => cases e; exact .inl ⟨_, h2.sq, by rw [h3.empty]⟩
    | dic z h2 h3 => cases e; exact .inr (.inr ⟨_, h2, by cases h3 <;> rfl⟩)
    | ins _ _ _ _ _ => cases e
    | dct z h2 h3 => cases e
    | deck _ => cases e
    | scr _ => cases e
theorem ed_if (h : TD c tt n env fun n1 b => if b = true then ED c ta n1 env R else ED c tb n1 env R) : ED c (tIf tt ta tb) n env R := fun B H σ r Q q => h B H σ r _ fun b H1 n1 r1 e1 k1 => by
  cases b with
  | true => exact iteT ((show ED c ta n1 env R from k1) B H1 σ r1 Q fun v H2 n2 d r2 e2 => q v H2 n2 d r2 (e1.trans e2))
  | false => exact iteF ((show ED c tb n1 env R from k1) B H1 σ r1 Q fun v H2 n2 d r2 e2 => q v H2 n2 d r2 (e1.trans e2))
theorem ed_and (h : ED c ta n env fun n1 d => isBl (fun n1 b => if b = true then ED c tb n1 env R else R n1 (.bl false)) n1 d) : ED c (tAndV ta tb) n env R := fun B H σ r Q q =>
  h B H σ r _ fun v H1 n1 d r1 e1 h1 k1 => by
    cases d <;> try exact k1.elim
    rename_i b
    cases h1
    refine ⟨b, rfl, ?_⟩
    cases b with
    | true => exact iteT ((show ED c tb n1 env R from k1) B H1 σ r1 Q fun v H2 n2 d r2 e2 => q v H2 n2 d r2 (e1.trans e2))
    | false => exact iteF (q _ H1 n1 _ r1 e1 (.bl false) k1)
theorem ed_or (h : ED c ta n env fun n1 d => isBl (fun n1 b => if b = true then R n1 (.bl true) else ED c tb n1 env R) n1 d) : ED c (tOrV ta tb) n env R := fun B H σ r Q q =>
  h B H σ r _ fun v H1 n1 d r1 e1 h1 k1 => by
    cases d <;> try exact k1.elim
    rename_i b
    cases h1
    refine ⟨b, rfl, ?_⟩
    cases b with
    | true => exact iteT (q _ H1 n1 _ r1 e1 (.bl true) k1)
    | false => exact iteF ((show ED c tb n1 env R from k1) B H1 σ r1 Q fun v H2 n2 d r2 e2 => q v H2 n2 d r2 (e1.trans e2))
theorem ed_not (h : ED c ta n env fun n1 d => isBl (fun n1 b => R n1 (.bl (!b))) n1 d) : ED c (tNotV ta) n env R := fun B H σ r Q q =>
  h B H σ r _ fun v H1 n1 d r1 e1 h1 k1 => by
    cases d <;> try exact k1.elim
    rename_i b
    cases h1
    exact ⟨b, rfl, q _ H1 n1 _ r1 e1 (.bl _) k1⟩
/-- a is None -/
theorem ed_isN (h : ED c ta n env fun n1 d => R n1 (.bl (match d with | .non => true | _ => false))) : ED c (tIsN ta) n env R := fun B H σ r Q q =>
  h B H σ r _ fun v H1 n1 d r1 e1 h1 k1 => q _ H1 n1 _ r1 e1 (.bl _) (by cases h1 <;> simpa using k1)
theorem ed_notN (h : ED c ta n env fun n1 d => R n1 (.bl (match d with | .non => false | _ => true))) : ED c (tNotN ta) n env R := fun B H σ r Q q =>
  h B H σ r _ fun v H1 n1 d r1 e1 h1 k1 => q _ H1 n1 _ r1 e1 (.bl _) (by cases h1 <;> simpa using k1)
end

/-! ### statements -/
structure DN where
  nx : Nat → DL.Env → Prop
  rt : Nat → Dv → Prop
  bk : Nat → DL.Env → Prop := fun _ _ => False
  ct : Nat → DL.Env → Prop := fun _ _ => False
theorem Step.ext {c : Cn} {B : Addr → Prop} {n : Nat} {H H' : Hp} {σ : L2.St} {env : DL.Env} (R : Rel c B n H σ env) (e : Ext0 c.wd H H') : Step B H B H' := ⟨R.keeps e, fun _ h => .inl h⟩
structure Lift (c : Cn) (B : Addr → Prop) (H : Hp) (N : DN) (D : Ends) : Prop where
  nx : ∀ B2 H2 σ2 n2 env2, Step B H B2 H2 → (∀ a, c.B a → B2 a) → Rel c B2 n2 H2 σ2 env2 → N.nx n2 env2 → D.nx σ2 H2
  bk : ∀ B2 H2 σ2 n2 env2, Step B H B2 H2 → (∀ a, c.B a → B2 a) → Rel c B2 n2 H2 σ2 env2 → N.bk n2 env2 → D.bk σ2 H2
  ct : ∀ B2 H2 σ2 n2 env2, Step B H B2 H2 → (∀ a, c.B a → B2 a) → Rel c B2 n2 H2 σ2 env2 → N.ct n2 env2 → D.ct σ2 H2
  rt : ∀ v H2 n2 d, WOk c.wd n2 H2 → Ext0 c.wd c.He H2 → Dt c.wd c.B c.K H2 v d → N.rt n2 d → D.rt v H2
def SD (c : Cn) (t : TS) (n : Nat) (env : DL.Env) (N : DN) : Prop := ∀ B H σ, (∀ a, c.B a → B a) → Rel c B n H σ env → ∀ D : Ends, Lift c B H N D → t D σ H

section
variable {c : Cn} {n : Nat} {env : DL.Env} {N : DN} {te : TE} {tt : TT} {t u : TS}
theorem Lift.later {B B1 : Addr → Prop} {H H1 : Hp} {D : Ends} (l : Lift c B H N D) (s : Step B H B1 H1) : Lift c B1 H1 N D where
  nx := fun B2 H2 σ2 n2 env2 a b r k => l.nx B2 H2 σ2 n2 env2 (s.trans a) b r k
  bk := fun B2 H2 σ2 n2 env2 a b r k => l.bk B2 H2 σ2 n2 env2 (s.trans a) b r k
  ct := fun B2 H2 σ2 n2 env2 a b r k => l.ct B2 H2 σ2 n2 env2 (s.trans a) b r k
  rt := l.rt
theorem sd_seq (h : SD c t n env { N with nx := fun n1 env1 => SD c u n1 env1 N }) : SD c (tSeq t u) n env N := fun B H σ b r D l =>
  h B H σ b r _ { nx := fun B2 H2 σ2 n2 env2 s b2 r2 k => k B2 H2 σ2 b2 r2 D (l.later s), bk := l.bk, ct := l.ct, rt := l.rt }
theorem sd_next (h : N.nx n env) : SD c tNext n env N := fun B H σ b r D l => l.nx B H σ n env (Step.refl B H) b r h
theorem sd_break (h : N.bk n env) : SD c tBreak n env N := fun B H σ b r D l => l.bk B H σ n env (Step.refl B H) b r h
theorem sd_cont (h : N.ct n env) : SD c tCont n env N := fun B H σ b r D l => l.ct B H σ n env (Step.refl B H) b r h
theorem sd_asg {i : Nat} (h : ED c te n env fun n1 d => N.nx n1 (env.set i (some (.fz d)))) : SD c (tAsg te (gName i)) n env N := fun B H σ b r D l =>
  h B H σ r _ fun v H1 n1 d r1 e1 h1 k => l.nx B H1 _ n1 _ (Step.ext r e1) b (r1.set i h1) k
theorem sd_ret (h : ED c te n env N.rt) : SD c (tRet te) n env N := fun B H σ b r D l =>
  h B H σ r _ fun v H1 n1 d r1 e1 h1 k => l.rt v H1 n1 d r1.wok r1.ent (Dt.move (fun _ _ e _ => e) (fun a z => .inl (b a z)) d v h1) k
theorem sd_retN (h : N.rt n .non) : SD c tRetN n env N := fun B H σ b r D l => l.rt .non H n .non r.wok r.ent .non h
theorem sd_drop (h : ED c te n env fun n1 _ => N.nx n1 env) : SD c (tDrop te) n env N := fun B H σ b r D l =>
  h B H σ r _ fun v H1 n1 d r1 e1 h1 k => l.nx B H1 σ n1 env (Step.ext r e1) b r1 k
theorem sd_if (h : TD c tt n env fun n1 b => if b = true then SD c t n1 env N else SD c u n1 env N) : SD c (tIfS tt t u) n env N := fun B H σ b r D l =>
  h B H σ r _ fun k H1 n1 r1 e1 h1 => by
    cases k with
    | true => exact iteT ((show SD c t n1 env N from h1) B H1 σ b r1 D (l.later (Step.ext r e1)))
    | false => exact iteF ((show SD c u n1 env N from h1) B H1 σ b r1 D (l.later (Step.ext r e1)))
theorem sd_mono {N' : DN} (h : SD c t n env N) (h1 : ∀ n e, N.nx n e → N'.nx n e) (h2 : ∀ n d, N.rt n d → N'.rt n d) (h3 : ∀ n e, N.bk n e → N'.bk n e) (h4 : ∀ n e, N.ct n e → N'.ct n e) : SD c t n env N' := fun B H σ b r D l =>
  h B H σ b r D ⟨fun B2 H2 σ2 n2 env2 s b2 r2 k => l.nx B2 H2 σ2 n2 env2 s b2 r2 (h1 _ _ k), fun B2 H2 σ2 n2 env2 s b2 r2 k => l.bk B2 H2 σ2 n2 env2 s b2 r2 (h3 _ _ k),
    fun B2 H2 σ2 n2 env2 s b2 r2 k => l.ct B2 H2 σ2 n2 env2 s b2 r2 (h4 _ _ k), fun v H2 n2 d a b e k => l.rt v H2 n2 d a b e (h2 _ _ k)⟩
/-- fewer draws are free than could be -/
theorem sd_less {m : Nat} (l : m ≤ n) (h : SD c t m env N) : SD c t n env N := fun B H σ b r => h B H σ b (r.less l)
/-- a name is forgotten -/
theorem Rel.drop {B : Addr → Prop} {H : Hp} {σ : L2.St} (R : Rel c B n H σ env) (i : Nat) : Rel c B n H σ (env.set i none) where
  sub := R.sub
  stp := R.stp
  len := by rw [List.length_set]; exact R.len
  wok := R.wok
  dk := R.dk
  live := R.live
  ent := R.ent
  fz := fun j d h => by
    by_cases q : i = j
    · subst q
      rw [List.getElem?_set] at h
      simp at h
    · rw [List.getElem?_set_ne q] at h
      exact R.fz j d h
  own := fun j d h => by
    by_cases q : i = j
    · subst q
      rw [List.getElem?_set] at h
      simp at h
    · rw [List.getElem?_set_ne q] at h
      exact R.own j d h
  inj := fun j k o u a hj hk => by
    have no : ∀ {j : Nat} {o : Ob}, (env.set i none)[j]? = some (some (.own o)) → env[j]? = some (some (.own o)) := fun {j o} h => by
      by_cases q : i = j
      · subst q
        rw [List.getElem?_set] at h
        simp at h
      · rwa [List.getElem?_set_ne q] at h
    exact R.inj j k o u a (no hj) (no hk)
  slf := fun j cn es hj => by
    by_cases q : i = j
    · subst q
      rw [List.getElem?_set] at hj
      simp at hj
    · rw [List.getElem?_set_ne q] at hj
      exact R.slf j cn es hj
theorem sd_drop1 (i : Nat) (h : SD c t n (env.set i none) N) : SD c t n env N := fun B H σ b r => h B H σ b (r.drop i)
end
end DL

set_option Elab.async false
set_option linter.all false
set_option maxRecDepth 100000
set_option maxHeartbeats 2000000
/-! D3: lists of a def's own, loops, comprehensions, calls, a def's promise over trees. -/
namespace DL
open PySem L2

section
variable {c : Cn} {n : Nat} {env : DL.Env} {N : DN} {te : TE} {tt : TT} {t u : TS}

/-! ### fresh lists -/
/-- an expression comes to a new list of trees -/
def FD (c : Cn) (t : TE) (n : Nat) (env : DL.Env) (R : Nat → List Dv → Prop) : Prop := ∀ B H σ, Rel c B n H σ env → ∀ Q : VK,
  (∀ p xs H' n' ds, Rel c B n' H' σ env → Ext0 c.wd H H' → H' p = none → DtA c.wd B c.K H' xs ds → R n' ds → Q (.ref p) (upd H' p (.lst xs))) → t σ H Q
theorem fd_lst {ta : TA} {R : Nat → List Dv → Prop} (h : AD c ta n env fun n1 ds => ds.length ≤ sizeLine ∧ R n1 ds) : FD c (tLst ta) n env R := fun B H σ r Q q =>
  h B H σ r _ fun vs H1 n1 ds r1 e1 h1 ⟨l, k1⟩ => ⟨by rw [h1.length]; exact l, fun p hp => q p vs H1 n1 ds r1 e1 hp h1 k1⟩
theorem ed_fd {R : Nat → Dv → Prop} (h : FD c te n env fun n1 ds => R n1 (.lst ds)) : ED c te n env R := fun B H σ r Q q =>
  h B H σ r Q fun p xs H1 n1 ds r1 e1 hp h1 k1 => by
    have s := same_new hp (.lst xs)
    exact q _ _ n1 _ (r1.same s) (e1.trans (Ext0.same s)) (.lst (ql_new r1.live hp) (dta_same s h1)) k1
/-- a new object becomes the def's own -/
theorem Rel.give {B : Addr → Prop} {H : Hp} {σ : L2.St} (R : Rel c B n H σ env) (i : Nat) {p : Addr} (hp : H p = none) (u : HO) (o : Ob) (ho : Own c.wd (fun a => B a ∨ a = p) c.K (upd H p u) p o) (hni : ∀ cn es, o ≠ .ins cn es := by nofun) :
    Rel c (fun a => B a ∨ a = p) n (upd H p u) (σ.set i (some (.ref p))) (env.set i (some (.own o))) := by
  have s : Same H (upd H p u) := same_new hp u
  have hp' : ∀ a o, H a = some o → ¬ B a → upd H p u a = some o := fun a o h _ => s a o h
  have hb : ∀ a, (B a ∨ a = p) → B a ∨ H a = none := fun a h => h.imp id fun z => by rw [z]; exact hp
  have nd : ¬ Dk c.wd p := fun z => R.new hp (R.dk p z)
  have at_i : ∀ {x : Option Dx} {y : Dx}, (env.set i x)[i]? = some (some y) → i < env.length ∧ x = some y := fun {x y} h => by
    have l : i < env.length := by
      have := (List.getElem?_eq_some_iff.mp h).1
      rwa [List.length_set] at this
    rw [List.getElem?_set_self l] at h
    exact ⟨l, Option.some.inj h⟩
  have own_other : ∀ {j : Nat} {v : Ob} {a : Addr}, env[j]? = some (some (.own v)) → σ[j]? = some (some (.ref a)) → a ≠ p := fun {j v a} h1 h2 z => by
    obtain ⟨b, e, hb, _⟩ := R.own j v h1
    rw [e] at h2
    cases h2
    exact R.new hp (z ▸ hb)
  refine ⟨fun a h => .inl (R.sub a h), R.stp.trans ⟨hp', hb⟩, by rw [List.length_set, List.length_set, R.len], R.wok.same s, fun a h => .inl (R.dk a h), fun a h => ?_, fun a o h z => s a o (R.ent a o h z), fun j d h => ?_, fun j v h => ?_, fun j k v w a hj hk sj sk => ?_, fun j cn es hj => ?_⟩
  · rcases h with h | rfl
    · match q : H a with
      | none => exact absurd q (R.live a h)
      | some o => rw [s a o q]; exact nofun
    · rw [upd_same]; exact nofun
  · by_cases q : i = j
    · subst q
      cases (at_i h).2
    · rw [List.getElem?_set_ne q] at h ⊢
      obtain ⟨v, e, r⟩ := R.fz j d h
      exact ⟨v, e, Dt.move hp' hb d v r⟩
  · by_cases q : i = j
    · subst q
      obtain ⟨l, e⟩ := at_i h
      cases e
      exact ⟨p, List.getElem?_set_self (by rw [R.len]; exact l), .inr rfl, nd, R.newHe hp, ho⟩
    · rw [List.getElem?_set_ne q] at h ⊢
      obtain ⟨a, e, b, nk, he, r⟩ := R.own j v h
      exact ⟨a, e, .inl b, nk, he, Own.move hp' hb (fun o z => s a o z) r⟩
  · by_cases q : i = j
    · subst q
      by_cases q' : i = k
      · exact q'
      · rw [List.getElem?_set_ne q'] at hk sk
        obtain ⟨l, _⟩ := at_i hj
        rw [List.getElem?_set_self (by rw [R.len]; exact l)] at sj
        cases sj
        exact absurd rfl (own_other hk sk)
    · by_cases q' : i = k
      · subst q'
        rw [List.getElem?_set_ne q] at hj sj
        obtain ⟨l, _⟩ := at_i hk
        rw [List.getElem?_set_self (by rw [R.len]; exact l)] at sk
        cases sk
        exact absurd rfl (own_other hj sj)
      · rw [List.getElem?_set_ne q] at hj sj
        rw [List.getElem?_set_ne q'] at hk sk
        exact R.inj j k v w a hj hk sj sk
  · by_cases q : i = j
    · subst q
      exact absurd (Dx.own.inj (Option.some.inj (by rw [(at_i hj).2]))) (hni cn es)
    · rw [List.getElem?_set_ne q] at hj ⊢
      exact R.slf j cn es hj
theorem step_give {B : Addr → Prop} {H : Hp} {p : Addr} (hp : H p = none) (u : HO) : Step B H (fun a => B a ∨ a = p) (upd H p u) :=
  ⟨fun a o h _ => same_new hp u a o h, fun a h => h.imp id fun z => by rw [z]; exact hp⟩
theorem sd_own {i : Nat} (h : FD c te n env fun n1 ds => N.nx n1 (env.set i (some (.own (.lst ds))))) : SD c (tAsg te (gName i)) n env N := fun B H σ b r D l =>
  h B H σ r _ fun p xs H1 n1 ds r1 e1 hp h1 k => by
    refine l.nx _ _ _ n1 _ ((Step.ext r e1).trans (step_give hp _)) (fun a z => .inl (b a z)) (r1.give i hp (.lst xs) (.lst ds) ⟨xs, upd_same, ?_⟩) k
    exact DtA.move (fun a o h _ => same_new hp _ a o h) (fun a h => h.imp id fun z => by rw [z]; exact hp) ds xs h1
/-- an own object is turned -/
theorem Rel.turn {B : Addr → Prop} {H : Hp} {σ : L2.St} (R : Rel c B n H σ env) {i : Nat} {v : Ob} {a : Addr} (hi : env[i]? = some (some (.own v))) (ha : σ[i]? = some (some (.ref a))) (u : HO) (o : Ob) (ho : Own c.wd B c.K (upd H a u) a o) (hni : (∀ cn es, o ≠ .ins cn es) ∨ ∃ cn es, v = .ins cn es := by first | exact .inl (by nofun) | exact .inr ⟨_, _, rfl⟩) :
    Rel c B n (upd H a u) σ (env.set i (some (.own o))) ∧ Step B H B (upd H a u) := by
  obtain ⟨a', e, hb, nk, he, r0⟩ := R.own i v hi
  rw [ha] at e
  cases e
  have hp' : ∀ x o, H x = some o → ¬ B x → upd H a u x = some o := fun x o h z => by
    rw [upd_ne (show x ≠ a from fun q => z (by rw [q]; exact hb))]
    exact h
  have hb' : ∀ x, B x → B x ∨ H x = none := fun _ h => .inl h
  have li : i < env.length := (List.getElem?_eq_some_iff.mp hi).1
  refine ⟨⟨R.sub, R.stp.trans ⟨hp', hb'⟩, by rw [List.length_set]; exact R.len, fun p e => ?_, R.dk, fun x h => ?_, fun x o h z => ?_, fun j d h => ?_, fun j w h => ?_, fun j k w z b hj hk sj sk => ?_, fun j cn es hj => ?_⟩, ⟨hp', hb'⟩⟩
  · obtain ⟨ne, m, k, cs, h1, h2, r⟩ := R.wok p e
    refine ⟨ne, m, k, cs, ?_, ?_, r⟩
    · rw [upd_ne (fun q => nk ⟨p, e, .inl q.symm⟩)]; exact h1
    · rw [upd_ne (fun q => nk ⟨p, e, .inr q.symm⟩)]; exact h2
  · by_cases q : x = a
    · subst q; rw [upd_same]; exact nofun
    · rw [upd_ne q]; exact R.live x h
  · have q : x ≠ a := fun q => by rw [q, he] at h; cases h
    rw [upd_ne q]
    exact R.ent x o h z
  · by_cases q : i = j
    · subst q
      rw [List.getElem?_set_self li] at h
      cases h
    · rw [List.getElem?_set_ne q] at h
      obtain ⟨w, e, r⟩ := R.fz j d h
      exact ⟨w, e, Dt.move hp' hb' d w r⟩
  · by_cases q : i = j
    · subst q
      rw [List.getElem?_set_self li] at h
      cases h
      exact ⟨a, ha, hb, nk, he, ho⟩
    · rw [List.getElem?_set_ne q] at h
      obtain ⟨b, e, bb, bn, be, r⟩ := R.own j w h
      have nab : b ≠ a := fun z => q (R.inj i j v w a hi h ha (z ▸ e))
      exact ⟨b, e, bb, bn, be, Own.move hp' hb' (fun o z => by rw [upd_ne nab]; exact z) r⟩
  · have back : ∀ {j : Nat} {w : Ob}, (env.set i (some (.own o)))[j]? = some (some (.own w)) → ∃ w', env[j]? = some (some (.own w')) := fun {j w} h => by
      by_cases q : i = j
      · subst q; exact ⟨v, hi⟩
      · rw [List.getElem?_set_ne q] at h; exact ⟨w, h⟩
    obtain ⟨w', hj'⟩ := back hj
    obtain ⟨z', hk'⟩ := back hk
    exact R.inj j k w' z' b hj' hk' sj sk
  · by_cases q : i = j
    · subst q
      rw [List.getElem?_set_self li] at hj
      cases hj
      rcases hni with h | ⟨cn', es', rfl⟩
      · exact absurd rfl (h cn es)
      · exact R.slf i cn' es' hi
    · rw [List.getElem?_set_ne q] at hj
      exact R.slf j cn es hj
/-- x.append(e) -/
theorem sd_append {i : Nat} {ds : List Dv} (hi : env[i]? = some (some (.own (.lst ds)))) (h : ED c te n env fun n1 d => ds.length < sizeLine ∧ N.nx n1 (env.set i (some (.own (.lst (ds ++ [d])))))) :
    SD c (tDrop (tBM c.K "list" rAppend (tVar i) (tCons te tNil))) n env N := fun B H σ b r D l => by
  obtain ⟨a, e, hb, nk, he, xs, hx, hd⟩ := r.own i _ hi
  refine ⟨_, e, .inl ⟨rfl, xs, .inl (.inl hx)⟩, ?_⟩
  refine h B H σ r _ fun v H1 n1 d r1 e1 h1 ⟨sz, k⟩ => ?_
  obtain ⟨a', e', hb', nk', he', xs', hx', hd'⟩ := r1.own i _ hi
  rw [e] at e'
  cases e'
  refine ⟨a, xs', v, rfl, rfl, hx', by rw [hd'.length]; exact sz, ?_⟩
  obtain ⟨r2, s2⟩ := r1.turn hi e (.lst (xs' ++ [v])) (.lst (ds ++ [d])) ⟨_, upd_same, DtA.move (fun x o q z => by rw [upd_ne (show x ≠ a from fun y => z (by rw [y]; exact hb))]; exact q) (fun _ z => .inl z) _ _ (hd'.append (.cons h1 .nil))⟩
  exact l.nx B _ σ n1 _ ((Step.ext r e1).trans s2) b r2 k
/-- an own list is a tree from now on -/
theorem Rel.freeze {B : Addr → Prop} {H : Hp} {σ : L2.St} (R : Rel c B n H σ env) {i : Nat} {ds : List Dv} (hi : env[i]? = some (some (.own (.lst ds)))) : ∃ B', (∀ a, B' a → B a) ∧ (∀ a, B a → c.He a ≠ none → B' a) ∧ Rel c B' n H σ (env.set i (some (.fz (.lst ds)))) := by
  obtain ⟨a, e, hb, nk, he, xs, hx, hd⟩ := R.own i _ hi
  have li : i < env.length := (List.getElem?_eq_some_iff.mp hi).1
  have hp' : ∀ x o, H x = some o → ¬ B x → H x = some o := fun _ _ h _ => h
  have hb' : ∀ x, (B x ∧ x ≠ a) → B x ∨ H x = none := fun _ h => .inl h.1
  refine ⟨fun x => B x ∧ x ≠ a, fun _ h => h.1, fun x h z => ⟨h, fun q => z (q ▸ he)⟩, ⟨fun x h => ⟨R.sub x h, fun q => c.lv x h (q ▸ he)⟩, R.stp.trans ⟨hp', hb'⟩, by rw [List.length_set]; exact R.len, R.wok, fun x h => ⟨R.dk x h, fun q => nk (q ▸ h)⟩, fun x h => R.live x h.1, R.ent, fun j d h => ?_, fun j w h => ?_, fun j k w z b hj hk sj sk => ?_, fun j cn es hj => ?_⟩⟩
  · by_cases q : i = j
    · subst q
      rw [List.getElem?_set_self li] at h
      cases h
      exact ⟨.ref a, e, .lst ⟨fun z => z.2 rfl, hx⟩ (DtA.move hp' hb' ds xs hd)⟩
    · rw [List.getElem?_set_ne q] at h
      obtain ⟨w, e, r⟩ := R.fz j d h
      exact ⟨w, e, Dt.move hp' hb' d w r⟩
  · by_cases q : i = j
    · subst q
      rw [List.getElem?_set_self li] at h
      cases h
    · rw [List.getElem?_set_ne q] at h
      obtain ⟨b, eb, bb, bn, be, r⟩ := R.own j w h
      have nab : b ≠ a := fun z => q (R.inj i j _ w a hi h e (z ▸ eb))
      exact ⟨b, eb, ⟨bb, nab⟩, bn, be, Own.move hp' hb' (fun _ z => z) r⟩
  · have back : ∀ {j : Nat} {w : Ob}, (env.set i (some (.fz (.lst ds))))[j]? = some (some (.own w)) → env[j]? = some (some (.own w)) := fun {j w} h => by
      by_cases q : i = j
      · subst q; rw [List.getElem?_set_self li] at h; cases h
      · rwa [List.getElem?_set_ne q] at h
    exact R.inj j k w z b (back hj) (back hk) sj sk
  · by_cases q : i = j
    · subst q; rw [List.getElem?_set_self li] at hj; cases hj
    · rw [List.getElem?_set_ne q] at hj
      exact R.slf j cn es hj
theorem sd_freeze (i : Nat) {ds : List Dv} (hi : env[i]? = some (some (.own (.lst ds)))) (h : SD c t n (env.set i (some (.fz (.lst ds)))) N) : SD c t n env N := fun B H σ b r D l => by
  obtain ⟨B', h1, h2, r'⟩ := r.freeze hi
  have b' : ∀ a, c.B a → B' a := fun a z => h2 a (b a z) (c.lv a z)
  exact h B' H σ b' r' D (l.later ⟨fun _ _ e _ => e, fun a z => .inl (h1 a z)⟩)
end
end DL

set_option Elab.async false
set_option linter.all false
set_option maxRecDepth 100000
set_option maxHeartbeats 2000000
/-! D4: what is walked, loops, comprehensions, targets, calls, defs. -/
namespace DL
open PySem PySem.Spec L2

section
variable {c : Cn} {n : Nat} {env : DL.Env} {N : DN} {te : TE} {tt : TT} {t u tb : TS}

/-! ### what is walked -/
def Walks (c : Cn) (B : Addr → Prop) (J : It) (H0 : Hp) (items : List Dv) : Prop := ∀ B2 H, Step B H0 B2 H → (∀ a, B2 a → H a ≠ none) →
  (∀ (i : Nat) (d : Dv), items[i]? = some d → J.go i H ∧ ∀ x H', J.yld i H x H' → Same H H' ∧ Dt c.wd B2 c.K H' x d) ∧ ∀ i : Nat, i = items.length → J.stop i H
def WD (c : Cn) (wi : TI) (n : Nat) (env : DL.Env) (R : Nat → List Dv → Prop) : Prop := ∀ B H σ, Rel c B n H σ env → ∀ k : It → Hp → Prop,
  (∀ J H' n' items, Rel c B n' H' σ env → Ext0 c.wd H H' → Walks c B J H' items → R n' items → k J H') → wi σ H k
theorem ql_step {B B2 : Addr → Prop} {K : PySem.W.Frag} {H H2 : Hp} {a : Addr} {xs : List V} (s : Step B H B2 H2) (h : QL B K H a xs) : QL B2 K H2 a xs := ⟨fun x => (s.ban _ x).elim h.1 (by rw [h.2]; exact nofun), s.keep _ _ h.2 h.1⟩
theorem qt_step {B B2 : Addr → Prop} {K : PySem.W.Frag} {H H2 : Hp} {a : Addr} {xs : List V} (s : Step B H B2 H2) (h : QT B K H a xs) : QT B2 K H2 a xs := ⟨fun x => (s.ban _ x).elim h.1 (by rw [h.2]; exact nofun), s.keep _ _ h.2 h.1⟩
/-- a list -/
theorem wd_list {R : Nat → List Dv → Prop} (h : ED c te n env fun n1 d => ∃ ds, d = .lst ds ∧ R n1 ds) : WD c (iList c.K te) n env R := fun B H σ r k q =>
  h B H σ r _ fun v H1 n1 d r1 e1 h1 ⟨ds, e, k1⟩ => by
    subst e
    cases h1 with
    | @lst a xs _ hq hd =>
      refine ⟨a, rfl, ⟨xs, hq.sq⟩, q _ H1 n1 ds r1 e1 (fun B2 H2 s lv => ⟨fun i d hi => ?_, fun i hi => ?_⟩) k1⟩
      · obtain ⟨x, hx, hxd⟩ := hd.get hi
        have hs : SqL c.K H2 a xs := (ql_step s hq).sq
        refine ⟨⟨xs, x, hs, hx⟩, fun y H' hy => ?_⟩
        obtain ⟨e, hy⟩ := hy
        subst e
        have := hy xs hs
        rw [hx] at this
        cases this
        exact ⟨Same.refl _, Dt.move s.keep s.ban d x hxd⟩
      · exact ⟨xs, (ql_step s hq).sq, by rw [hd.length]; exact Nat.le_of_eq hi.symm⟩
/-- a tuple -/
theorem wd_tup {R : Nat → List Dv → Prop} (h : ED c te n env fun n1 d => ∃ ds, d = .tup ds ∧ R n1 ds) : WD c (iTup c.K te) n env R := fun B H σ r k q =>
  h B H σ r _ fun v H1 n1 d r1 e1 h1 ⟨ds, e, k1⟩ => by
    subst e
    cases h1 with
    | @tup a xs _ hq hd =>
      refine ⟨a, rfl, ⟨xs, hq.sq⟩, q _ H1 n1 ds r1 e1 (fun B2 H2 s lv => ⟨fun i d hi => ?_, fun i hi => ?_⟩) k1⟩
      · obtain ⟨x, hx, hxd⟩ := hd.get hi
        have hs : SqT c.K H2 a xs := (qt_step s hq).sq
        refine ⟨⟨xs, x, hs, hx⟩, fun y H' hy => ?_⟩
        obtain ⟨e, hy⟩ := hy
        subst e
        have := hy xs hs
        rw [hx] at this
        cases this
        exact ⟨Same.refl _, Dt.move s.keep s.ban d x hxd⟩
      · exact ⟨xs, (qt_step s hq).sq, by rw [hd.length]; exact Nat.le_of_eq hi.symm⟩
/-- the signs of a text, each a text -/
def signs (x : Str) : List Dv := x.cps.toList.map fun k => .str ⟨#[k]⟩
theorem wd_str {R : Nat → List Dv → Prop} (h : ED c te n env fun n1 d => ∃ x, d = .str x ∧ R n1 (signs x)) : WD c (iStr te) n env R := fun B H σ r k q =>
  h B H σ r _ fun v H1 n1 d r1 e1 h1 ⟨x, e, k1⟩ => by
    subst e
    cases h1
    refine ⟨x, rfl, q _ H1 n1 _ r1 e1 (fun B2 H2 s lv => ⟨fun i d hi => ?_, fun i hi => ?_⟩) k1⟩
    · unfold signs at hi
      rw [List.getElem?_map] at hi
      have hi' : (x.cps[i]?).map (fun k => Dv.str ⟨#[k]⟩) = some d := by rw [← hi]; simp
      cases q : x.cps[i]? with
      | none => rw [q] at hi'; cases hi'
      | some k =>
        rw [q] at hi'
        cases hi'
        refine ⟨(Array.getElem?_eq_some_iff.mp q).1, fun y H' hy => ?_⟩
        obtain ⟨e, k', h1, h2⟩ := hy
        subst e
        rw [q] at h1
        cases h1
        subst h2
        exact ⟨Same.refl _, .str _⟩
    · show x.cps.size ≤ i
      unfold signs at hi
      exact Nat.le_of_eq (by simpa using hi.symm)
/-- lo, lo + 1, .. -/
def rints (lo : Int) (k : Nat) : List Dv := (List.range k).map fun (i : Nat) => .int (lo + (i : Int))
theorem rints_get {lo : Int} {k i : Nat} {d : Dv} (h : (rints lo k)[i]? = some d) : i < k ∧ d = .int (lo + (i : Int)) := by
  unfold rints at h
  rw [List.getElem?_map] at h
  by_cases q : i < k
  · rw [List.getElem?_range q] at h
    cases h
    exact ⟨q, rfl⟩
  · rw [List.getElem?_eq_none (by simpa using q)] at h
    cases h
theorem walks_range {B : Addr → Prop} {H : Hp} {lo : Int} {k : Nat} : Walks c B (Itr lo k) H (rints lo k) := fun B2 H2 s lv => ⟨fun i d hi => by
    obtain ⟨h1, h2⟩ := rints_get hi
    subst h2
    refine ⟨h1, fun x H' hx => ?_⟩
    obtain ⟨e, hx⟩ := hx
    subst e hx
    exact ⟨Same.refl _, .int _⟩, fun i hi => by
    show k ≤ i
    unfold rints at hi
    exact Nat.le_of_eq (by simpa using hi.symm)⟩
theorem wd_range1 {ta : TA} {R : Nat → List Dv → Prop} (h : AD c ta n env fun n1 ds => ∃ j : Int, ds = [.int j] ∧ -(2 ^ 62) ≤ j ∧ j < 2 ^ 62 ∧ R n1 (rints 0 j.toNat)) : WD c (iRng1 ta) n env R := fun B H σ r k q =>
  h B H σ r _ fun v H1 n1 d r1 e1 h1 ⟨j, e, l1, l2, k1⟩ => by
    subst e
    cases h1 with
    | cons a b =>
      cases a
      cases b
      exact ⟨j, rfl, l1, l2, q _ H1 n1 _ r1 e1 walks_range k1⟩
theorem wd_range2 {ta : TA} {R : Nat → List Dv → Prop} (h : AD c ta n env fun n1 ds => ∃ i j : Int, ds = [.int i, .int j] ∧ (-(2 ^ 62) ≤ i ∧ i < 2 ^ 62 ∧ -(2 ^ 62) ≤ j ∧ j < 2 ^ 62) ∧ R n1 (rints i (j - i).toNat)) : WD c (iRng2 ta) n env R := fun B H σ r k q =>
  h B H σ r _ fun v H1 n1 d r1 e1 h1 ⟨i, j, e, l1, k1⟩ => by
    subst e
    cases h1 with
    | cons a b =>
      cases a
      cases b with
      | cons a b =>
        cases a
        cases b
        exact ⟨i, j, rfl, l1, q _ H1 n1 _ r1 e1 walks_range k1⟩
/-- enumerate(list) -/
def nums (ds : List Dv) : List Dv := ds.zipIdx.map fun p => .tup [.int (p.2 : Nat), p.1]
theorem wd_enum {ta : TA} {R : Nat → List Dv → Prop} (h : AD c ta n env fun n1 es => ∃ ds, es = [.lst ds] ∧ R n1 (nums ds)) : WD c (iEnum c.K ta) n env R := fun B H σ r k q =>
  h B H σ r _ fun v H1 n1 d r1 e1 h1 ⟨ds, e, k1⟩ => by
    subst e
    cases h1 with
    | cons a b =>
      cases b
      cases a with
      | @lst a xs _ hq hd =>
        refine ⟨a, xs, rfl, hq.sq, q _ H1 n1 _ r1 e1 (fun B2 H2 s lv => ⟨fun i d hi => ?_, fun i hi => ?_⟩) k1⟩
        · unfold nums at hi
          rw [List.getElem?_map, List.getElem?_zipIdx] at hi
          cases q : ds[i]? with
          | none => rw [q] at hi; cases hi
          | some e =>
            rw [q] at hi
            obtain ⟨x, hx, hxd⟩ := hd.get q
            have hs : SqL c.K H2 a xs := (ql_step s hq).sq
            refine ⟨⟨xs, x, hs, hx⟩, fun y H' hy => ?_⟩
            obtain ⟨T, z, e1, e2, e3, e4⟩ := hy
            have := e4 xs hs
            rw [hx] at this
            cases this
            subst e1 e3
            have sm := same_new e2 (.tup [.int (i : Nat), x])
            have hd' : d = .tup [.int (i : Nat), e] := by simpa using hi.symm
            subst hd'
            exact ⟨sm, .tup (qt_new lv e2) (.cons (.int _) (.cons (dt_same sm (Dt.move s.keep s.ban e x hxd)) .nil))⟩
        · refine ⟨xs, (ql_step s hq).sq, ?_⟩
          unfold nums at hi
          rw [List.length_map, List.length_zipIdx] at hi
          rw [hd.length]; exact Nat.le_of_eq hi.symm

/-! ### targets -/
/-- a target takes a tree -/
def GD (c : Cn) (g : TG) (vs : List Nat) (d : Dv) (env : DL.Env) (R : DL.Env → Prop) : Prop := ∀ B n H σ v, Rel c B n H σ env → Dt c.wd B c.K H v d → ∀ Q : L2.St → Hp → Prop,
  (∀ σ2 env2, Rel c B n H σ2 env2 → wipe σ2 vs = wipe σ vs → R env2 → Q σ2 H) → g v σ H Q
def GDs (c : Cn) (g : TGs) (vs : List Nat) (ds : List Dv) (env : DL.Env) (R : DL.Env → Prop) : Prop := ∀ B n H σ us, Rel c B n H σ env → DtA c.wd B c.K H us ds → ∀ Q : L2.St → Hp → Prop,
  (∀ σ2 env2, Rel c B n H σ2 env2 → wipe σ2 vs = wipe σ vs → R env2 → Q σ2 H) → g us σ H Q
theorem wipe_get (σ : L2.St) : ∀ (vs : List Nat) (j : Nat), (wipe σ vs)[j]? = if j ∈ vs then (if j < σ.length then some none else none) else σ[j]?
  | [], j => by simp [wipe]
  | v :: vs, j => by
    show ((wipe σ vs).set v none)[j]? = _
    rw [List.getElem?_set]
    by_cases q : v = j
    · subst q
      simp [wipe_length]
    · rw [if_neg q, wipe_get σ vs j]
      have q' : ¬ j = v := fun z => q z.symm
      simp [q']
theorem wipe_set {σ : L2.St} {i : Nat} {x : Option V} {vs : List Nat} (h : i ∈ vs) : wipe (σ.set i x) vs = wipe σ vs := by
  apply List.ext_getElem?
  intro j
  rw [wipe_get, wipe_get, List.length_set]
  by_cases q : j ∈ vs
  · rw [if_pos q, if_pos q]
  · rw [if_neg q, if_neg q, List.getElem?_set_ne (show i ≠ j from fun z => q (by rw [← z]; exact h))]
theorem wipe_wipe {σ : L2.St} {vs : List Nat} : wipe (wipe σ vs) vs = wipe σ vs := by
  apply List.ext_getElem?
  intro j
  rw [wipe_get, wipe_length]
  by_cases q : j ∈ vs
  · rw [if_pos q, wipe_get, if_pos q]
  · rw [if_neg q]
theorem gd_name {i : Nat} {vs : List Nat} {d : Dv} {R : DL.Env → Prop} (hi : i ∈ vs) (k : R (env.set i (some (.fz d)))) : GD c (gName i) vs d env R := fun B n H σ v r h Q q => q _ _ (r.set i h) (wipe_set hi) k
theorem gds_nil {vs : List Nat} {R : DL.Env → Prop} (k : R env) : GDs c gNil vs [] env R := fun B n H σ us r h Q q => by
  cases h
  exact ⟨rfl, q σ env r rfl k⟩
theorem gds_cons {g : TG} {gs : TGs} {vs : List Nat} {d : Dv} {ds : List Dv} {R : DL.Env → Prop} (h : GD c g vs d env fun env1 => GDs c gs vs ds env1 R) : GDs c (gCons g gs) vs (d :: ds) env R := fun B n H σ us r hd Q q => by
  cases hd with
  | cons a b =>
    refine ⟨_, _, rfl, h B n H σ _ r a _ fun σ2 env2 r2 w2 k2 => k2 B n H σ2 _ r2 b Q fun σ3 env3 r3 w3 k3 => q σ3 env3 r3 (w3.trans w2) k3⟩
theorem gd_tup {k : Nat} {gs : TGs} {vs : List Nat} {ds : List Dv} {R : DL.Env → Prop} (hl : ds.length = k) (h : GDs c gs vs ds env R) : GD c (gTup c.K k gs) vs (.tup ds) env R := fun B n H σ v r hd Q q => by
  cases hd with
  | @tup a xs _ hq hx => exact ⟨a, xs, rfl, hq.sq, by rw [hx.length]; exact hl, h B n H σ xs r hx Q q⟩
theorem gd_unl {k : Nat} {gs : TGs} {vs : List Nat} {ds : List Dv} {R : DL.Env → Prop} (hl : ds.length = k) (h : GDs c gs vs ds env R) : GD c (fun v σ H Q => ∃ a xs, v = .ref a ∧ SqL c.K H a xs ∧ xs.length = k ∧ gs xs σ H Q) vs (.lst ds) env R := fun B n H σ v r hd Q q => by
  cases hd with
  | @lst a xs _ hq hx => exact ⟨a, xs, rfl, hq.sq, by rw [hx.length]; exact hl, h B n H σ xs r hx Q q⟩
theorem sd_asgG {g : TG} {vs : List Nat} (h : ED c te n env fun n1 d => GD c g vs d env (N.nx n1)) : SD c (tAsg te g) n env N := fun B H σ b r D l =>
  h B H σ r _ fun v H1 n1 d r1 e1 h1 k => k B n1 H1 σ v r1 h1 _ fun σ2 env2 r2 _ k2 => l.nx B H1 σ2 n1 env2 (Step.ext r e1) b r2 k2

/-! ### for -/
theorem sd_for {wi : TI} {g : TG} {vs : List Nat} (h : WD c wi n env fun n0 items => ∃ J : Nat → Nat → DL.Env → Prop, J 0 n0 env ∧
      (∀ i n1 env1 d, items[i]? = some d → J i n1 env1 → GD c g vs d env1 fun env2 => SD c tb n1 env2 { nx := J (i + 1), rt := N.rt, bk := N.nx, ct := J (i + 1) }) ∧ ∀ n1 env1, J items.length n1 env1 → N.nx n1 env1) :
    SD c (tFor wi g tb) n env N := fun B H σ b r D l => by
  refine h B H σ r _ fun J H1 n1 items r1 e1 wk ⟨I, i0, step, fin⟩ => ?_
  have s1 := Step.ext r e1
  refine ⟨fun i m σ2 H2 => m = items.length - i ∧ i ≤ items.length ∧ ∃ B2 n2 env2, Step B H1 B2 H2 ∧ (∀ a, c.B a → B2 a) ∧ Rel c B2 n2 H2 σ2 env2 ∧ I i n2 env2, ⟨items.length, by simp, Nat.zero_le _, B, n1, env, Step.refl B H1, b, r1, i0⟩, ?_⟩
  rintro i m σ2 H2 ⟨rfl, hi, B2, n2, env2, s2, b2, r2, k2⟩
  obtain ⟨w1, w2⟩ := wk B2 H2 s2 r2.live
  by_cases hlt : i < items.length
  · refine .inr ⟨(w1 i items[i] (by simp [hlt])).1, fun σ3 H3 => ∃ B3 n3 env3, Step B H1 B3 H3 ∧ (∀ a, c.B a → B3 a) ∧ Rel c B3 n3 H3 σ3 env3 ∧ I (i + 1) n3 env3, fun σ3 H3 ⟨B3, n3, env3, s3, b3, r3, k3⟩ => ⟨items.length - (i + 1), by omega, rfl, hlt, B3, n3, env3, s3, b3, r3, k3⟩, fun x H' hy => ?_⟩
    obtain ⟨sm, hx⟩ := (w1 i items[i] (by simp [hlt])).2 x H' hy
    have r2' := r2.same sm
    have s2' : Step B H1 B2 H' := s2.trans ⟨fun a o q _ => sm a o q, fun _ z => .inl z⟩
    refine step i n2 env2 items[i] (by simp [hlt]) k2 B2 n2 H' σ2 x r2' hx _ fun σ3 env3 r3 _ k3 => ?_
    refine k3 B2 H' σ3 b2 r3 _ ⟨fun B4 H4 σ4 n4 env4 s4 b4 r4 k4 => ⟨B4, n4, env4, s2'.trans s4, b4, r4, k4⟩, fun B4 H4 σ4 n4 env4 s4 b4 r4 k4 => l.nx B4 H4 σ4 n4 env4 ((s1.trans s2').trans s4) b4 r4 k4,
      fun B4 H4 σ4 n4 env4 s4 b4 r4 k4 => ⟨B4, n4, env4, s2'.trans s4, b4, r4, k4⟩, l.rt⟩
  · obtain rfl : i = items.length := by omega
    exact .inl ⟨w2 _ rfl, l.nx B2 H2 σ2 n2 env2 (s1.trans s2) b2 r2 (fin n2 env2 k2)⟩

/-! ### comprehensions -/
def wipeD (env : DL.Env) : List Nat → DL.Env
  | [] => env
  | v :: vs => (wipeD env vs).set v none
theorem Rel.wipe1 {B : Addr → Prop} {H : Hp} {σ : L2.St} (R : Rel c B n H σ env) (i : Nat) : Rel c B n H (σ.set i none) (env.set i none) where
  sub := R.sub
  stp := R.stp
  len := by rw [List.length_set, List.length_set]; exact R.len
  wok := R.wok
  dk := R.dk
  live := R.live
  ent := R.ent
  fz := fun j d h => by
    by_cases q : i = j
    · subst q
      rw [List.getElem?_set] at h
      simp at h
    · rw [List.getElem?_set_ne q] at h ⊢
      exact R.fz j d h
  own := fun j d h => by
    by_cases q : i = j
    · subst q
      rw [List.getElem?_set] at h
      simp at h
    · rw [List.getElem?_set_ne q] at h ⊢
      exact R.own j d h
  inj := fun j k o u a hj hk sj sk => by
    have no : ∀ {j : Nat} {o : Ob}, (env.set i none)[j]? = some (some (.own o)) → i ≠ j := fun {j o} h q => by
      subst q
      rw [List.getElem?_set] at h
      simp at h
    have nj := no hj
    have nk := no hk
    rw [List.getElem?_set_ne nj] at hj sj
    rw [List.getElem?_set_ne nk] at hk sk
    exact R.inj j k o u a hj hk sj sk
  slf := fun j cn es hj => by
    by_cases q : i = j
    · subst q
      rw [List.getElem?_set] at hj
      simp at hj
    · rw [List.getElem?_set_ne q] at hj ⊢
      exact R.slf j cn es hj
theorem Rel.wipes {B : Addr → Prop} {H : Hp} {σ : L2.St} (R : Rel c B n H σ env) : ∀ vs : List Nat, Rel c B n H (wipe σ vs) (wipeD env vs)
  | [] => R
  | v :: vs => (R.wipes vs).wipe1 v
/-- a ban more, of something that was free -/
theorem Rel.more {B : Addr → Prop} {H : Hp} {σ : L2.St} (R : Rel c B n H σ env) {p : Addr} (hp : H p = none) (u : HO) : Rel c (fun a => B a ∨ a = p) n (upd H p u) σ env := by
  have s : Same H (upd H p u) := same_new hp u
  have hp' : ∀ a o, H a = some o → ¬ B a → upd H p u a = some o := fun a o h _ => s a o h
  have hb : ∀ a, (B a ∨ a = p) → B a ∨ H a = none := fun a h => h.imp id fun z => by rw [z]; exact hp
  refine ⟨fun a h => .inl (R.sub a h), R.stp.trans ⟨hp', hb⟩, R.len, R.wok.same s, fun a h => .inl (R.dk a h), fun a h => ?_, fun a o h z => s a o (R.ent a o h z), fun j d h => ?_, fun j v h => ?_, R.inj, R.slf⟩
  · rcases h with h | rfl
    · match q : H a with
      | none => exact absurd q (R.live a h)
      | some o => rw [s a o q]; exact nofun
    · rw [upd_same]; exact nofun
  · obtain ⟨v, e, r⟩ := R.fz j d h
    exact ⟨v, e, Dt.move hp' hb d v r⟩
  · obtain ⟨a, e, b, nk, he, r⟩ := R.own j v h
    exact ⟨a, e, .inl b, nk, he, Own.move hp' hb (fun o z => s a o z) r⟩
/-- the banned thing is turned -/
theorem Rel.turnP {B : Addr → Prop} {H : Hp} {σ : L2.St} {p : Addr} (R : Rel c B n H σ env) (hb : B p) (nd : ¬ Dk c.wd p) (he : c.He p = none) (ho : ∀ (i : Nat) (o : Ob), env[i]? = some (some (.own o)) → σ[i]? ≠ some (some (.ref p))) (u : HO) : Rel c B n (upd H p u) σ env := by
  have hp' : ∀ x o, H x = some o → ¬ B x → upd H p u x = some o := fun x o h z => by
    rw [upd_ne (show x ≠ p from fun q => z (by rw [q]; exact hb))]
    exact h
  refine ⟨R.sub, R.stp.trans ⟨hp', fun _ z => .inl z⟩, R.len, fun q e => ?_, R.dk, fun x h => ?_, fun x o h z => ?_, fun j d h => ?_, fun j w h => ?_, R.inj, R.slf⟩
  · obtain ⟨ne, m, k, cs, h1, h2, r⟩ := R.wok q e
    refine ⟨ne, m, k, cs, ?_, ?_, r⟩
    · rw [upd_ne (show q.dk ≠ p from fun z => nd ⟨q, e, .inl z.symm⟩)]; exact h1
    · rw [upd_ne (show q.cl ≠ p from fun z => nd ⟨q, e, .inr z.symm⟩)]; exact h2
  · by_cases q : x = p
    · subst q; rw [upd_same]; exact nofun
    · rw [upd_ne q]; exact R.live x h
  · rw [upd_ne (show x ≠ p from fun q => by rw [q, he] at h; cases h)]
    exact R.ent x o h z
  · obtain ⟨w, e, r⟩ := R.fz j d h
    exact ⟨w, e, Dt.move hp' (fun _ z => .inl z) d w r⟩
  · obtain ⟨b, e, bb, bn, be, r⟩ := R.own j w h
    have nab : b ≠ p := fun z => ho j w h (z ▸ e)
    exact ⟨b, e, bb, bn, be, Own.move hp' (fun _ z => .inl z) (fun o z => by rw [upd_ne nab]; exact z) r⟩
/-- the ban of something that no local holds ends -/
theorem Rel.fewer {B B' : Addr → Prop} {H : Hp} {σ : L2.St} (R : Rel c B n H σ env) (h0 : ∀ a, c.B a → B' a) (h1 : ∀ a, B' a → B a) (h2 : ∀ a, Dk c.wd a → B' a) (h3 : ∀ (i : Nat) (o : Ob) (a : Addr), env[i]? = some (some (.own o)) → σ[i]? = some (some (.ref a)) → B' a) : Rel c B' n H σ env :=
  ⟨h0, R.stp.trans ⟨fun _ _ e _ => e, fun a z => .inl (h1 a z)⟩, R.len, R.wok, h2, fun a h => R.live a (h1 a h), R.ent, fun j d h => let ⟨v, e, r⟩ := R.fz j d h; ⟨v, e, Dt.move (fun _ _ e _ => e) (fun a z => .inl (h1 a z)) d v r⟩,
    fun j o h => let ⟨a, e, b, nk, he, r⟩ := R.own j o h; ⟨a, e, h3 j o a h e, nk, he, Own.move (fun _ _ e _ => e) (fun a z => .inl (h1 a z)) (fun _ z => z) r⟩, R.inj, R.slf⟩
/-- [e for target in iter if test]: J by the turn, the free draws, the list so far -/
theorem fd_lc {wi : TI} {g : TG} {vs : List Nat} {R : Nat → List Dv → Prop} (h : WD c wi n env fun n0 items => ∃ J : Nat → Nat → List Dv → Prop, J 0 n0 [] ∧
      (∀ i n1 acc d, items[i]? = some d → J i n1 acc → GD c g vs d (wipeD env vs) fun env2 => TD c tt n1 env2 fun n2 b =>
        if b = true then ED c te n2 env2 fun n3 y => acc.length < sizeLine ∧ J (i + 1) n3 (acc ++ [y]) else J (i + 1) n2 acc) ∧ ∀ n1 acc, J items.length n1 acc → R n1 acc) :
    ED c (tLc wi g tt te vs) n env fun n1 d => ∃ ds, d = .lst ds ∧ R n1 ds := fun B H σ r Q q => by
  refine h B H σ r _ fun J H1 n1 items r1 e1 wk ⟨I, i0, step, fin⟩ D hD => ?_
  have sD : ∀ o, Same H1 (upd H1 D o) := fun o => same_new hD o
  have nD : ¬ B D := r1.new hD
  have nk : ¬ Dk c.wd D := fun z => nD (r1.dk D z)
  have noOwn : ∀ (i : Nat) (o : Ob), env[i]? = some (some (.own o)) → σ[i]? ≠ some (some (.ref D)) := fun i o hi hs => by
    obtain ⟨a, e, b, _⟩ := r1.own i o hi
    rw [e] at hs
    cases hs
    exact nD b
  let BD : Addr → Prop := fun a => B a ∨ a = D
  refine ⟨fun i m H2 => m = items.length - i ∧ i ≤ items.length ∧ ∃ n2 acc xs, Rel c BD n2 H2 σ env ∧ Ext0 c.wd H1 H2 ∧ H2 D = some (.lst xs) ∧ DtA c.wd BD c.K H2 xs acc ∧ I i n2 acc,
    ⟨items.length, by simp, Nat.zero_le _, n1, [], [], r1.more hD _, Ext0.same (sD _), upd_same, .nil, i0⟩, ?_⟩
  rintro i m H2 ⟨rfl, hi, n2, acc, xs, r2, e2, hx, hd, k2⟩
  have s2 : Step B H1 BD H2 := ⟨fun a o q z => e2 a o q fun y => z (r1.dk a y), fun a z => z.imp id fun y => by rw [y]; exact hD⟩
  obtain ⟨w1, w2⟩ := wk BD H2 s2 r2.live
  by_cases hlt : i < items.length
  · refine .inr ⟨(w1 i items[i] (by simp [hlt])).1, fun H3 => ∃ n3 acc xs, Rel c BD n3 H3 σ env ∧ Ext0 c.wd H1 H3 ∧ H3 D = some (.lst xs) ∧ DtA c.wd BD c.K H3 xs acc ∧ I (i + 1) n3 acc, fun H3 ⟨n3, acc, xs, p⟩ => ⟨items.length - (i + 1), by omega, rfl, hlt, n3, acc, xs, p⟩, fun x H' hy => ?_⟩
    obtain ⟨sm, hxd⟩ := (w1 i items[i] (by simp [hlt])).2 x H' hy
    have r2' := r2.same sm
    refine step i n2 acc items[i] (by simp [hlt]) k2 BD n2 H' (wipe σ vs) x (r2'.wipes vs) hxd _ fun σ3 env3 r3 w3 k3 => ⟨w3.trans wipe_wipe, ?_⟩
    refine k3 BD H' σ3 r3 _ fun b H4 n4 r4 e4 k4 => ?_
    have rE : Rel c BD n4 H4 σ env := r2'.ext e4 r4.wok
    have e24 : Ext0 c.wd H1 H4 := (e2.trans (Ext0.same sm)).trans e4
    cases b with
    | false => exact iteF ⟨n4, acc, xs, rE, e24, e4 D _ (sm D _ hx) nk, r3.dta e4 (dta_same sm hd), k4⟩
    | true =>
      refine iteT ((show ED c te n4 env3 _ from k4) BD H4 σ3 r4 _ fun y H5 n5 dy r5 e5 hy5 ⟨sz, k5⟩ => ?_)
      have hx5 : H5 D = some (.lst xs) := e5 D _ (e4 D _ (sm D _ hx) nk) nk
      have hd5 : DtA c.wd BD c.K H5 xs acc := r4.dta e5 (r3.dta e4 (dta_same sm hd))
      have rE5 : Rel c BD n5 H5 σ env := rE.ext e5 r5.wok
      have keepB : ∀ a o, H5 a = some o → ¬ BD a → upd H5 D (.lst (xs ++ [y])) a = some o := fun a o q z => by
        rw [upd_ne (show a ≠ D from fun w => z (.inr w))]
        exact q
      refine ⟨xs, hx5, by rw [hd5.length]; exact sz, n5, acc ++ [dy], xs ++ [y], rE5.turnP (.inr rfl) nk (r1.newHe hD) noOwn _, fun a o q z => ?_, upd_same, DtA.move keepB (fun _ z => .inl z) _ _ (hd5.append (.cons hy5 .nil)), k5⟩
      rw [upd_ne (show a ≠ D from fun w => by rw [w, hD] at q; cases q)]
      exact e5 a o (e24 a o q z) z
  · obtain rfl : i = items.length := by omega
    refine .inl ⟨w2 _ rfl, ?_⟩
    have rF : Rel c B n2 H2 σ env := r2.fewer r1.sub (fun a z => .inl z) r1.dk fun i o a hi hs => by
      obtain ⟨a', e, b, _⟩ := r1.own i o hi
      rw [e] at hs
      cases hs
      exact b
    exact q _ H2 n2 _ rF (e1.trans e2) (.lst ⟨nD, hx⟩ (DtA.move (fun _ _ e _ => e) (fun a z => .inl (.inl z)) _ _ hd)) ⟨acc, rfl, fin n2 acc k2⟩
theorem ed_lc {wi : TI} {g : TG} {vs : List Nat} {R : Nat → Dv → Prop} (h : WD c wi n env fun n0 items => ∃ J : Nat → Nat → List Dv → Prop, J 0 n0 [] ∧
      (∀ i n1 acc d, items[i]? = some d → J i n1 acc → GD c g vs d (wipeD env vs) fun env2 => TD c tt n1 env2 fun n2 b =>
        if b = true then ED c te n2 env2 fun n3 y => acc.length < sizeLine ∧ J (i + 1) n3 (acc ++ [y]) else J (i + 1) n2 acc) ∧ ∀ n1 acc, J items.length n1 acc → R n1 (.lst acc)) :
    ED c (tLc wi g tt te vs) n env R := ed_mono (fd_lc (R := fun n1 ds => R n1 (.lst ds)) h) fun n d ⟨ds, e, k⟩ => by subst e; exact k
end

/-! ### calls and promises over trees -/
/-- a def's promise over trees: from the free draws and the arguments, what is wanted of the free draws and the answer -/
abbrev Ct := Nat → List Dv → (Nat → Dv → Prop) → Prop
def spD (K : PySem.W.Frag) (mg : Str → Option Value) (C : Ct) : Sp := fun vs H Q _ => ∃ (wd : Wd) (B : Addr → Prop) (n : Nat) (ds : List Dv) (R : Nat → Dv → Prop),
  wd.cm = mg ∧ WOk wd n H ∧ (∀ a, Dk wd a → B a) ∧ (∀ a, B a → H a ≠ none) ∧ DtA wd B K H vs ds ∧ C n ds R ∧
  ∀ r H' n' d, WOk wd n' H' → Ext0 wd H H' → Dt wd B K H' r d → R n' d → Q r H'
section
variable {c : Cn} {n : Nat} {env : DL.Env}
theorem ed_call {C : Ct} {E : XK} {t : TA} {R : Nat → Dv → Prop} (h : AD c t n env fun n1 ds => C n1 ds R) : ED c (tCall (spD c.K c.wd.cm C) [] E t) n env R := fun B H σ r Q q =>
  h B H σ r _ fun vs H1 n1 ds r1 e1 h1 k1 => ⟨c.wd, B, n1, ds, R, rfl, r1.wok, r1.dk, r1.live, by rw [List.append_nil]; exact h1, k1, fun v H2 n2 d w2 e2 h2 k2 => q v H2 n2 d (r1.ext e2 w2) (e1.trans e2) h2 k2⟩
theorem ed_callK {C : Ct} {E : XK} {t tk : TA} {gV : List V → List V → List V} {gD : List Dv → List Dv → List Dv} {R : Nat → Dv → Prop}
    (hg : ∀ {wd : Wd} {B : Addr → Prop} {K : PySem.W.Frag} {H : Hp} {vs us : List V} {ds es : List Dv}, DtA wd B K H vs ds → DtA wd B K H us es → DtA wd B K H (gV vs us) (gD ds es))
    (h : AD c t n env fun n1 ds => AD c tk n1 env fun n2 es => C n2 (gD ds es) R) : ED c (tCallK (spD c.K c.wd.cm C) gV E t tk) n env R := fun B H σ r Q q =>
  h B H σ r _ fun vs H1 n1 ds r1 e1 h1 k1 => k1 B H1 σ r1 _ fun us H2 n2 es r2 e2 h2 k2 =>
    ⟨c.wd, B, n2, gD ds es, R, rfl, r2.wok, r2.dk, r2.live, hg (r1.dta e2 h1) h2, k2, fun v H3 n3 d w3 e3 h3 k3 => q v H3 n3 d (r2.ext e3 w3) ((e1.trans e2).trans e3) h3 k3⟩
end
/-- the locals at a def's entry -/
def startD (k : Nat) (ds : List Dv) : DL.Env := ds.map (fun d => some (.fz d)) ++ List.replicate (k - ds.length) none
theorem rel_start {wd : Wd} {B : Addr → Prop} {K : PySem.W.Frag} {H : Hp} {n : Nat} {vs : List V} {ds : List Dv} {N : List Str} (lv : ∀ a, B a → H a ≠ none) (w : WOk wd n H) (dk : ∀ a, Dk wd a → B a) (h : DtA wd B K H vs ds) :
    Rel ⟨wd, B, K, H, lv, B, H, 0⟩ B n H (L2.start N vs) (startD N.length ds) where
  sub := fun _ z => z
  stp := Step.refl B H
  len := by simp [L2.start, startD, h.length]
  wok := w
  dk := dk
  live := lv
  ent := Ext0.refl _ _
  fz := fun i d hi => by
    unfold startD at hi
    by_cases q : i < ds.length
    · rw [List.getElem?_append_left (by simpa using q), List.getElem?_map] at hi
      cases e : ds[i]? with
      | none => rw [e] at hi; cases hi
      | some d' =>
        rw [e] at hi
        cases hi
        obtain ⟨v, h1, h2⟩ := h.get e
        refine ⟨v, ?_, h2⟩
        unfold L2.start
        rw [List.getElem?_append_left (by rw [List.length_map, h.length]; exact q), List.getElem?_map, h1]
        rfl
    · rw [List.getElem?_append_right (by simpa using q)] at hi
      have := List.mem_of_getElem? hi
      simp at this
  own := fun i o hi => by
    unfold startD at hi
    by_cases q : i < ds.length
    · rw [List.getElem?_append_left (by simpa using q), List.getElem?_map] at hi
      cases e : ds[i]? with
      | none => rw [e] at hi; cases hi
      | some d' => rw [e] at hi; cases hi
    · rw [List.getElem?_append_right (by simpa using q)] at hi
      have := List.mem_of_getElem? hi
      simp at this
  inj := fun i j o u a hi => by
    exfalso
    unfold startD at hi
    by_cases q : i < ds.length
    · rw [List.getElem?_append_left (by simpa using q), List.getElem?_map] at hi
      cases e : ds[i]? with
      | none => rw [e] at hi; cases hi
      | some d' => rw [e] at hi; cases hi
    · rw [List.getElem?_append_right (by simpa using q)] at hi
      have := List.mem_of_getElem? hi
      simp at this
  slf := fun i cn es hi => by
    exfalso
    unfold startD at hi
    by_cases q : i < ds.length
    · rw [List.getElem?_append_left (by simpa using q), List.getElem?_map] at hi
      cases e : ds[i]? with
      | none => rw [e] at hi; cases hi
      | some d' => rw [e] at hi; cases hi
    · rw [List.getElem?_append_right (by simpa using q)] at hi
      have := List.mem_of_getElem? hi
      simp at this
/-- THE RULE for a def: a derivation of its body, and its reading over trees -/
theorem fnD {P : Program} {w : World} {K : PySem.W.Frag} {mg : Str → Option Value} {base : Heap} {k : Nat} {f : Addr} {fd : FuncData} {ps : List Str} {x qual : Str} {st : Stmt} {NN : List Str} {C : Ct}
    (F : Fun K x qual st f fd) (S : FnScope NN ps (defScope st)) (len : ∀ n ds R, C n ds R → ds.length = ps.length)
    (hb : ∀ (cdv : Value) (A : Around) (outer : List PySem.Env) (s : Shared) (H : Hp) (E : XK), A.guards = some [] →
      Room k (A.deeper (PyProof.Rows.envOfC qual (defScope st) s.heap.objs.size f cdv)) →
      ∃ t, PSs (cxOf CX0 P w K mg base NN qual (defScope st) f cdv A outer s H E).nox (defBody st) t ∧
        ∀ n ds R, C n ds R → ∀ c : Cn, c.K = K → c.wd.cm = mg → SD c t n (startD NN.length ds) { nx := fun n _ => R n .non, rt := R }) :
    FnG P w K mg base CX0 (k + 1) f fd ps (spD K mg C) := by
  refine okG F S (fun vs H Q E ⟨wd, B, n, ds, R, _, _, _, _, hd, hC, _⟩ => by rw [hd.length]; exact len n ds R hC) fun cdv A outer s H vs Q E hg hr hsp => ?_
  obtain ⟨t, ht, hq⟩ := hb cdv A outer s H E hg hr
  obtain ⟨wd, B, n, ds, R, hcm, hw, hk, lv, hd, hC, hQ⟩ := hsp
  refine ⟨t, ht.nox, ?_⟩
  refine hq n ds R hC ⟨wd, B, K, H, lv, B, H, 0⟩ rfl hcm B H _ (fun _ z => z) (rel_start lv hw hk hd) _ ⟨fun B2 H2 σ2 n2 env2 s2 b2 r2 k2 => ?_, fun _ _ _ _ _ _ _ _ z => z.elim, fun _ _ _ _ _ _ _ _ z => z.elim, fun v H2 n2 d w2 e2 h2 k2 => hQ v H2 n2 d w2 e2 h2 k2⟩
  exact hQ .non H2 n2 .non r2.wok r2.ent .non k2
end DL

set_option Elab.async false
set_option linter.all false
set_option maxRecDepth 100000
set_option maxHeartbeats 2000000
/-! D5: trees as the library's data: repr and ==. -/
namespace DL
open PySem PySem.Spec L2

/-! ### as the library's data -/
def pyK : Key → PyData
  | .inl i => .int i
  | .inr x => .str x
mutual
def py : Dv → PyData
  | .non => .none
  | .bl b => .bool b
  | .int i => .int i
  | .str x => .str x
  | .tup ds => .tuple (pyA ds)
  | .lst ds => .list (pyA ds)
  | .dic es => .dict (pyE es)
  | _ => .none
def pyA : List Dv → List PyData
  | [] => []
  | d :: ds => py d :: pyA ds
def pyE : List (Key × Dv) → List (PyData × PyData)
  | [] => []
  | (k, d) :: es => (pyK k, py d) :: pyE es
end
mutual
/-- no object, no deck within -/
def plain : Dv → Bool
  | .tup ds => plainA ds
  | .lst ds => plainA ds
  | .dic es => plainE es
  | .ins _ _ => false
  | .dct _ => false
  | .deck _ => false
  | .scr _ => false
  | _ => true
def plainA : List Dv → Bool
  | [] => true
  | d :: ds => plain d && plainA ds
def plainE : List (Key × Dv) → Bool
  | [] => true
  | (_, d) :: es => plain d && plainE es
end

section
variable {X : Cx} {pins : List (Addr × Obj)} {σ : L2.St} {H : Hp} {s : Shared} {wd : Wd} {B : Addr → Prop}
theorem key_reads {h : Heap} {k : Key} {v : Value} (e : keyIs k v = true) : ∃ as, Reads h v (pyK k) as := by
  rcases keyIs_shape e with ⟨i, t, rfl, rfl⟩ | ⟨x, t, rfl, rfl⟩
  · exact ⟨_, .int i t⟩
  · exact ⟨_, .str x t⟩
mutual
theorem Dt.reads (I : Inv X pins σ H s) : ∀ (d : Dv) (v : V) (u : Value), Dt wd B X.K H v d → plain d = true → RelV v u → ∃ as, Reads s.heap u (py d) as
  | .non, _, _, h, _, r => by cases h; cases r; exact ⟨_, .none⟩
  | .bl b, _, _, h, _, r => by cases h; cases r; exact ⟨_, .bool b⟩
  | .int i, _, _, h, _, r => by cases h; obtain ⟨t, rfl⟩ := r; exact ⟨_, .int i t⟩
  | .str x, _, _, h, _, r => by cases h; obtain ⟨t, rfl⟩ := r; exact ⟨_, .str x t⟩
  | .tup ds, _, _, h, p, r => by
    cases h with
    | tup hq hd =>
      cases r
      obtain ⟨its, rv, ⟨o, ho, hc, n, hn⟩, _⟩ := I.tuple hq.sq
      obtain ⟨as, hr⟩ := DtA.reads I ds _ its hd (by simpa [plain] using p) rv
      exact ⟨_, .tuple ho hc hn hr⟩
  | .lst ds, _, _, h, p, r => by
    cases h with
    | lst hq hd =>
      cases r
      obtain ⟨its, rv, ⟨o, n, ho, hc, _, hn⟩, _⟩ := I.list (QL.sq hq)
      obtain ⟨as, hr⟩ := DtA.reads I ds _ its hd (by simpa [plain] using p) rv
      exact ⟨_, .list ho hc hn hr⟩
  | .dic es, _, _, h, p, r => by
    cases h with
    | dic hb ha hd =>
      cases r
      obtain ⟨_, _, vs, kv, o, ee, ep, ho, hx, hn, _, hp, _⟩ := dk_of I.hok ha
      obtain ⟨as, bs, h1, h2⟩ := DtK.reads I es _ vs ee.toList hd (by simpa [plain] using p) kv hp
      exact ⟨_, .dict ho hx.1 hn h1 h2⟩
  | .ins _ _, _, _, _, p, _ => by simp [plain] at p
  | .dct _, _, _, _, p, _ => by simp [plain] at p
  | .deck _, _, _, _, p, _ => by simp [plain] at p
  | .scr _, _, _, _, p, _ => by simp [plain] at p
theorem DtA.reads (I : Inv X pins σ H s) : ∀ (ds : List Dv) (vs : List V) (us : List Value), DtA wd B X.K H vs ds → plainA ds = true → Vals vs us → ∃ as, ReadsAll s.heap us (pyA ds) as
  | [], _, _, h, _, r => by cases h; cases r; exact ⟨_, .nil⟩
  | d :: ds, _, _, h, p, r => by
    have p' : plain d = true ∧ plainA ds = true := by simpa [plainA] using p
    cases h with
    | cons h1 h2 =>
      cases r with
      | cons r1 r2 =>
        obtain ⟨as, q1⟩ := Dt.reads I d _ _ h1 p'.1 r1
        obtain ⟨bs, q2⟩ := DtA.reads I ds _ _ h2 p'.2 r2
        exact ⟨_, .cons q1 q2⟩
theorem DtK.reads (I : Inv X pins σ H s) : ∀ (es : List (Key × Dv)) (kvs : List (Key × V)) (vs : List (Key × Value)) (ee : List DictEntry), DtK wd B X.K H kvs es → plainE es = true → KV kvs vs → Pairs (mixKind X.prog X.w) ee vs →
    ∃ as bs, ReadsAll s.heap (ee.map (·.key)) ((pyE es).map (·.1)) as ∧ ReadsAll s.heap (ee.map (·.val)) ((pyE es).map (·.2)) bs
  | [], _, _, _, h, _, r, q => by
    cases h
    cases r
    cases q
    exact ⟨_, _, .nil, .nil⟩
  | (k, d) :: es, _, _, _, h, p, r, q => by
    have p' : plain d = true ∧ plainE es = true := by simpa [plainE] using p
    cases h with
    | cons h1 h2 =>
      cases r with
      | cons r1 r2 =>
        cases q with
        | cons q1 q2 q3 =>
          obtain ⟨as, bs, z1, z2⟩ := DtK.reads I es _ _ _ h2 p'.2 r2 q3
          obtain ⟨rk, rv⟩ := r1
          simp only at rk rv
          rw [← rk] at q1
          obtain ⟨a1, y1⟩ := key_reads (h := s.heap) (show keyIs k _ = true from q1)
          obtain ⟨a2, y2⟩ := Dt.reads I d _ _ h1 p'.1 rv
          rw [← q2] at y2
          exact ⟨_, _, .cons y1 z1, .cons y2 z2⟩
end
end

/-! ### repr -/
section
variable {X : Cx} {pins : List (Addr × Obj)} {σ : L2.St} {H : Hp} {s : Shared} {wd : Wd} {B : Addr → Prop}
theorem key_repr {h : Heap} {k : Key} {v : Value} (e : keyIs k v = true) (hs : (pyK k).showable = true) (hz : (pyK k).shown.length ≤ sizeLine) (bs : List Addr) (n : Nat) : ReprK X.prog X.w bs h n v (pyK k).shown := by
  rcases keyIs_shape e with ⟨i, t, rfl, rfl⟩ | ⟨x, t, rfl, rfl⟩
  · simp only [pyK, PyData.shown]
    exact .of_is (ReprIs.int t (by simpa [pyK, PyData.showable] using hs)) _ _ _
  · simp only [pyK, PyData.shown]
    exact .of_is (ReprIs.str x t (by simpa only [pyK, PyData.shown] using hz)) _ _ _
theorem entries_mono {as as' : List Addr} {n m : Nat} {h : Heap} {P : Program} {w : World} (hs : ∀ b ∈ as, b ∈ as') (hd : n ≤ m) : ∀ {es : List DictEntry} {ts : List Str}, ReprEntriesK P w as h n es ts → ReprEntriesK P w as' h m es ts
  | _, _, .nil => .nil
  | _, _, .cons a b r => .cons ((a.more hs).level_le hd) ((b.more hs).level_le hd) (entries_mono hs hd r)
mutual
theorem Dt.reprK (I : Inv X pins σ H s) : ∀ (d : Dv) (v : V) (u : Value), Dt wd B X.K H v d → plain d = true → RelV v u → (py d).showable = true → (py d).shown.length ≤ sizeLine →
    ∃ bs, ReadAtMost s.heap (py d).depth bs ∧ ReprK X.prog X.w bs s.heap (py d).depth u (py d).shown
  | .non, _, _, h, _, r, _, _ => by cases h; cases r; exact ⟨[], (fun _ h => nomatch h), by simp only [py, PyData.shown]; exact .of_is ReprIs.none _ _ _⟩
  | .bl b, _, _, h, _, r, _, _ => by cases h; cases r; exact ⟨[], (fun _ h => nomatch h), by simp only [py, PyData.shown]; exact .of_is (ReprIs.bool b) _ _ _⟩
  | .int i, _, _, h, _, r, hs, _ => by cases h; obtain ⟨t, rfl⟩ := r; exact ⟨[], (fun _ h => nomatch h), by simp only [py, PyData.shown]; exact .of_is (ReprIs.int t (by simpa [py, PyData.showable] using hs)) _ _ _⟩
  | .str x, _, _, h, _, r, _, hz => by cases h; obtain ⟨t, rfl⟩ := r; exact ⟨[], (fun _ h => nomatch h), by simp only [py, PyData.shown]; exact .of_is (ReprIs.str x t (by simpa only [py, PyData.shown] using hz)) _ _ _⟩
  | .tup ds, _, _, h, p, r, hs, hz => by
    obtain ⟨as0, rd⟩ := Dt.reads I (.tup ds) _ _ h p r
    cases h with
    | tup hq hd =>
      cases r
      obtain ⟨its, rv, ⟨o, ho, hc, n, hn⟩, _⟩ := I.tuple hq.sq
      simp only [py, PyData.showable, PyData.shown] at hs hz
      obtain ⟨bs, hb, hk⟩ := DtA.reprK I ds _ its hd (by simpa [plain] using p) rv hs fun t ht => Nat.le_trans (tupleText_mem_le ht) hz
      have hna := not_mem_of_deeper rd (by simp only [py, PyData.depth]; omega) hb
      refine ⟨_ :: bs, ReadAtMost.cons rd (by simp only [py, PyData.depth]; omega) hb, ?_⟩
      simp only [py, PyData.depth, PyData.shown]
      exact ReprK.tuple ho hc hn hna hk
  | .lst ds, _, _, h, p, r, hs, hz => by
    obtain ⟨as0, rd⟩ := Dt.reads I (.lst ds) _ _ h p r
    cases h with
    | lst hq hd =>
      cases r
      obtain ⟨its, rv, ⟨o, n, ho, hc, _, hn⟩, _⟩ := I.list (QL.sq hq)
      simp only [py, PyData.showable, PyData.shown] at hs hz
      obtain ⟨bs, hb, hk⟩ := DtA.reprK I ds _ its hd (by simpa [plain] using p) rv hs fun t ht => Nat.le_trans (listText_mem_le ht) hz
      have hna := not_mem_of_deeper rd (by simp only [py, PyData.depth]; omega) hb
      refine ⟨_ :: bs, ReadAtMost.cons rd (by simp only [py, PyData.depth]; omega) hb, ?_⟩
      simp only [py, PyData.depth, PyData.shown]
      cases rv with
      | nil =>
        cases hd
        simp only [pyA, PyData.shownAll, listText_nil]
        exact ReprK.listEmpty ho hc hn
      | cons r1 r2 => exact ReprK.list ho hc hn hna (by simpa using hk.length_eq) (fun i y e => hk.item i y (by simpa using e))
  | .dic es, _, _, h, p, r, hs, hz => by
    obtain ⟨as0, rd⟩ := Dt.reads I (.dic es) _ _ h p r
    cases h with
    | dic hb0 ha hd =>
      cases r
      obtain ⟨_, hsys, vs, kv, o, ee, ep, ho, hx, hn, _, hp, _⟩ := dk_of I.hok ha
      simp only [py, PyData.showable, PyData.shown] at hs hz
      obtain ⟨bs, hb, hk⟩ := DtK.reprK I es _ vs ee.toList hd (by simpa [plain] using p) kv hp hs fun t ht => Nat.le_trans (dictText_mem_le ht) hz
      have hna := not_mem_of_deeper rd (by simp only [py, PyData.depth]; omega) hb
      refine ⟨_ :: bs, ReadAtMost.cons rd (by simp only [py, PyData.depth]; omega) hb, ?_⟩
      simp only [py, PyData.depth, PyData.shown]
      exact ReprK.dict ho hx.1 hn hsys hna hk
  | .ins _ _, _, _, _, p, _, _, _ => by simp [plain] at p
  | .dct _, _, _, _, p, _, _, _ => by simp [plain] at p
  | .deck _, _, _, _, p, _, _, _ => by simp [plain] at p
  | .scr _, _, _, _, p, _, _, _ => by simp [plain] at p
theorem DtA.reprK (I : Inv X pins σ H s) : ∀ (ds : List Dv) (vs : List V) (us : List Value), DtA wd B X.K H vs ds → plainA ds = true → Vals vs us → PyData.showableAll (pyA ds) = true → (∀ t ∈ PyData.shownAll (pyA ds), t.length ≤ sizeLine) →
    ∃ bs, ReadAtMost s.heap (PyData.depthAll (pyA ds)) bs ∧ ReprAllK X.prog X.w bs s.heap (PyData.depthAll (pyA ds)) us (PyData.shownAll (pyA ds))
  | [], _, _, h, _, r, _, _ => by cases h; cases r; exact ⟨[], (fun _ h => nomatch h), by simp only [pyA, PyData.shownAll]; exact .nil⟩
  | d :: ds, _, _, h, p, r, hs, hz => by
    have p' : plain d = true ∧ plainA ds = true := by simpa [plainA] using p
    have hs' : (py d).showable = true ∧ PyData.showableAll (pyA ds) = true := by simpa [pyA, PyData.showableAll] using hs
    cases h with
    | cons h1 h2 =>
      cases r with
      | cons r1 r2 =>
        obtain ⟨b1, hb1, k1⟩ := Dt.reprK I d _ _ h1 p'.1 r1 hs'.1 (hz _ (by simp only [pyA, PyData.shownAll]; exact List.mem_cons_self ..))
        obtain ⟨b2, hb2, k2⟩ := DtA.reprK I ds _ _ h2 p'.2 r2 hs'.2 fun t ht => hz t (by simp only [pyA, PyData.shownAll]; exact List.mem_cons_of_mem _ ht)
        refine ⟨b1 ++ b2, (hb1.mono ?_).append (hb2.mono ?_), ?_⟩
        · simp only [pyA, PyData.depthAll]; exact Nat.le_max_left _ _
        · simp only [pyA, PyData.depthAll]; exact Nat.le_max_right _ _
        · simp only [pyA, PyData.depthAll, PyData.shownAll]
          exact .cons ((k1.more fun b hb => List.mem_append_left _ hb).level_le (Nat.le_max_left _ _)) (k2.more_le (fun b hb => List.mem_append_right _ hb) (Nat.le_max_right _ _))
theorem DtK.reprK (I : Inv X pins σ H s) : ∀ (es : List (Key × Dv)) (kvs : List (Key × V)) (vs : List (Key × Value)) (ee : List DictEntry), DtK wd B X.K H kvs es → plainE es = true → KV kvs vs → Pairs (mixKind X.prog X.w) ee vs → PyData.showableKv (pyE es) = true → (∀ t ∈ PyData.shownKv (pyE es), t.length ≤ sizeLine) →
    ∃ bs, ReadAtMost s.heap (PyData.depthKv (pyE es)) bs ∧ ReprEntriesK X.prog X.w bs s.heap (PyData.depthKv (pyE es)) ee (PyData.shownKv (pyE es))
  | [], _, _, _, h, _, r, q, _, _ => by
    cases h
    cases r
    cases q
    exact ⟨[], (fun _ h => nomatch h), by simp only [pyE, PyData.shownKv]; exact .nil⟩
  | (k, d) :: es, _, _, _, h, p, r, q, hs, hz => by
    have p' : plain d = true ∧ plainE es = true := by simpa [plainE] using p
    have hs' : ((pyK k).showable = true ∧ (py d).showable = true) ∧ PyData.showableKv (pyE es) = true := by simpa [pyE, PyData.showableKv] using hs
    have l1 : ((pyK k).shown ++ ": " ++ (py d).shown).length ≤ sizeLine := hz _ (by simp only [pyE, PyData.shownKv]; exact List.mem_cons_self ..)
    rw [strLen_append, strLen_append] at l1
    cases h with
    | cons h1 h2 =>
      cases r with
      | cons r1 r2 =>
        cases q with
        | cons q1 q2 q3 =>
          obtain ⟨rk, rv⟩ := r1
          simp only at rk rv
          rw [← rk] at q1
          obtain ⟨b1, hb1, k1⟩ := Dt.reprK I d _ _ h1 p'.1 rv hs'.1.2 (by omega)
          obtain ⟨b2, hb2, k2⟩ := DtK.reprK I es _ _ _ h2 p'.2 r2 q3 hs'.2 fun t ht => hz t (by simp only [pyE, PyData.shownKv]; exact List.mem_cons_of_mem _ ht)
          refine ⟨b1 ++ b2, (hb1.mono ?_).append (hb2.mono ?_), ?_⟩
          · simp only [pyE, PyData.depthKv]; omega
          · simp only [pyE, PyData.depthKv]; omega
          · simp only [pyE, PyData.depthKv, PyData.shownKv]
            refine .cons (key_repr (show keyIs k _ = true from q1) hs'.1.1 (by omega) _ _) ?_ ?_
            · rw [q2]
              exact (k1.more fun b hb => List.mem_append_left _ hb).level_le (by omega)
            · exact entries_mono (fun b hb => List.mem_append_right _ hb) (by omega) k2
end
/-- repr(x), where no guard runs -/
def rRepr (K : PySem.W.Frag) : List V → Hp → VK → Prop := fun xs H Q => ∃ (wd : Wd) (B : Addr → Prop) (x : V) (d : Dv), xs = [x] ∧ Dt wd B K H x d ∧ plain d = true ∧ (py d).showable = true ∧ (py d).depth ≤ 60 ∧ (py d).shown.length ≤ sizeLine ∧ Q (.str (py d).shown) H
theorem call_repr {k : Nat} (hg : X.A.guards = some []) (hr : Room k X.A) : CallR X (.builtin "repr") (rRepr X.K) := by
  intro pins s σ H xs us Q I r h
  obtain ⟨wd, B, x, d, rfl, hd, hp, hs, hdp, hz, q⟩ := h
  obtain ⟨u, rfl, ru⟩ := Vals.one r
  have hu := hr.units
  obtain ⟨as0, rd⟩ := Dt.reads I d x u hd hp ru
  have fin : ∀ (h' : Heap) (tk t : Nat), (∀ b o, s.heap.get? b = some o → h'.get? b = some o) → EP X pins σ Q (.str (py d).shown t) { s with heap := h', toks := tk } := fun h' tk t kp => ⟨.str (py d).shown, H, I.kept kp, ⟨_, rfl⟩, q⟩
  cases d with
  | non => cases hd; cases ru; exact PySem.P.repr_of_none (by simpa only [py, PyData.shown] using fin s.heap _ _ fun _ _ e => e)
  | bl b => cases hd; cases ru; exact PySem.P.repr_of_bool (by simpa only [py, PyData.shown] using fin s.heap _ _ fun _ _ e => e)
  | int i =>
    cases hd
    obtain ⟨t, rfl⟩ := ru
    exact PySem.P.repr_of_int (by simpa [py, PyData.showable] using hs) (by simpa only [py, PyData.shown] using fin s.heap _ _ fun _ _ e => e)
  | str y =>
    cases hd
    obtain ⟨t, rfl⟩ := ru
    exact PySem.P.repr_of_str (by simpa only [py, PyData.shown] using fin s.heap _ _ fun _ _ e => e) (by simpa only [py, PyData.shown] using hz)
  | tup ds =>
    cases hd with
    | tup hq hd' =>
      cases ru
      obtain ⟨its, rv, ⟨o, ho, hc, n, hn⟩, _⟩ := I.tuple hq.sq
      simp only [py, PyData.showable, PyData.shown, PyData.depth] at hs hz hdp fin
      obtain ⟨bs, hb, hk⟩ := DtA.reprK I ds _ its hd' (by simpa [plain] using hp) rv hs fun t ht => Nat.le_trans (tupleText_mem_le ht) hz
      have hna := not_mem_of_deeper rd (by simp only [py, PyData.depth]; omega) hb
      refine call_repr_slot (T := "tuple") (by omega) ⟨o, ho, hc⟩ F.slot_tuple_repr ?_
      exact call_tuple_reprK ho hc hn hna hk hg (fun b _ => Clear.nil b) (by show X.A.units + 1 + _ < cLine; omega) (fun _ _ e => e) (fun h' t tk kp => ⟨_, _, rfl, fin h' tk t kp⟩) hz
  | lst ds =>
    cases hd with
    | lst hq hd' =>
      cases ru
      obtain ⟨its, rv, ⟨o, n, ho, hc, _, hn⟩, _⟩ := I.list (QL.sq hq)
      simp only [py, PyData.showable, PyData.shown, PyData.depth] at hs hz hdp fin
      obtain ⟨bs, hb, hk⟩ := DtA.reprK I ds _ its hd' (by simpa [plain] using hp) rv hs fun t ht => Nat.le_trans (listText_mem_le ht) hz
      have hna := not_mem_of_deeper rd (by simp only [py, PyData.depth]; omega) hb
      refine call_repr_slot (T := "list") (by omega) ⟨o, ho, hc⟩ F.slot_list_repr.toG ?_
      cases rv with
      | nil =>
        cases hd'
        simp only [pyA, PyData.shownAll, listText_nil] at fin
        exact call_list_repr_empty ⟨o, ho, hc⟩ ho hn ⟨_, _, rfl, fin s.heap _ _ fun _ _ e => e⟩
      | cons r1 r2 => exact call_list_reprK ho hc hn hna (by simpa using hk.length_eq) (fun i y e => hk.item i y (by simpa using e)) hg (fun b _ => Clear.nil b) (by show X.A.units + 1 + _ < cLine; omega) (fun _ _ e => e) (fun h' t tk kp => ⟨_, _, rfl, fin h' tk t kp⟩) hz
  | dic es =>
    cases hd with
    | dic hb0 ha hd' =>
      cases ru
      obtain ⟨_, hsys, vs, kv, o, ee, ep, ho, hx, hn, _, hpp, _⟩ := dk_of I.hok ha
      simp only [py, PyData.showable, PyData.shown, PyData.depth] at hs hz hdp fin
      obtain ⟨bs, hb, hk⟩ := DtK.reprK I es _ vs ee.toList hd' (by simpa [plain] using hp) kv hpp hs fun t ht => Nat.le_trans (dictText_mem_le ht) hz
      have hna := not_mem_of_deeper rd (by simp only [py, PyData.depth]; omega) hb
      refine call_repr_slot (T := "dict") (by omega) ⟨o, ho, hx.1⟩ F.slot_dict_repr ?_
      exact call_dict_reprK ho hx.1 hn hsys hna hk hg (fun b _ => Clear.nil b) (by show X.A.units + 1 + _ < cLine; omega) (fun _ _ e => e) (fun h' t tk kp => ⟨_, _, rfl, fin h' tk t kp⟩) hz
  | ins _ _ => simp [plain] at hp
  | dct _ => simp [plain] at hp
  | deck _ => simp [plain] at hp
  | scr _ => simp [plain] at hp
end

/-! ### == -/
def rEqT (K : PySem.W.Frag) (neg : Bool) : R2 := fun x y H Q => ∃ (wd : Wd) (B : Addr → Prop) (d e : Dv), Dt wd B K H x d ∧ Dt wd B K H y e ∧ plain d = true ∧ plain e = true ∧ SeqAt.shaped (py d) = true ∧ SeqAt.shaped (py e) = true ∧ Q (.bl (if neg then !PyData.eqv (py d) (py e) else PyData.eqv (py d) (py e))) H
section
variable {X : Cx}
theorem op_eqT (hu : X.A.units + 64 < cLine) : OpR X (compareOp .Eq) (rEqT X.K false) := by
  intro pins s σ H x y v u Q I rx ry h
  obtain ⟨wd, B, d, e, hd, he, pd, pe, sd, se, q⟩ := h
  obtain ⟨as, r1⟩ := Dt.reads I d x v hd pd rx
  obtain ⟨bs, r2⟩ := Dt.reads I e y u he pe ry
  exact SeqAt.compareEq_shaped r1 r2 sd se hu ⟨.bl _, H, I, rfl, q⟩
theorem op_neT (hu : X.A.units + 64 < cLine) : OpR X (compareOp .NotEq) (rEqT X.K true) := by
  intro pins s σ H x y v u Q I rx ry h
  obtain ⟨wd, B, d, e, hd, he, pd, pe, sd, se, q⟩ := h
  obtain ⟨as, r1⟩ := Dt.reads I d x v hd pd rx
  obtain ⟨bs, r2⟩ := Dt.reads I e y u he pe ry
  exact SeqAt.compareNe_shaped r1 r2 sd se hu ⟨.bl _, H, I, rfl, q⟩
end
end DL

set_option Elab.async false
set_option linter.all false
set_option maxRecDepth 100000
set_option maxHeartbeats 2000000
/-! D6: operators and built-ins over trees. -/
namespace DL
open PySem PySem.Spec L2

section
variable {X : Cx}
/-! ### unions: one rule for a sign of the text, whatever the values are -/
def rAddS : R2 := fun x y H Q => ∃ i j, x = .str i ∧ y = .str j ∧ i.length + j.length ≤ sizeLine ∧ Q (.str (i ++ j)) H
def rAddU (K : PySem.W.Frag) : R2 := fun x y H Q => rI0 (fun i j => .int (i + j)) x y H Q ∨ rAddS x y H Q ∨ rCat x y H Q ∨ rCatA K x y H Q
theorem op_addU : OpR X (binaryOp .Add) (rAddU X.K) := OpR.or op_add (OpR.or op_add_str (OpR.or op_cat op_catA))
def rMulU : R2 := fun x y H Q => rI CMul (fun i j => .int (i * j)) x y H Q ∨ rRep x y H Q
theorem op_mulU : OpR X (binaryOp .Mult) rMulU := OpR.or op_mul op_rep
/-- comparisons of numbers and of texts -/
def rCmpU (f : Int → Int → Bool) (g : List Nat → List Nat → Bool) : R2 := fun x y H Q => rI0 (fun i j => .bl (f i j)) x y H Q ∨ ∃ i j, x = .str i ∧ y = .str j ∧ Q (.bl (g i.cps.toList j.cps.toList)) H
theorem op_ltU : OpR X (compareOp .Lt) (rCmpU (fun i j => decide (i < j)) fun a b => decide (a < b)) := OpR.or op_lt op_lt_str
theorem op_leU : OpR X (compareOp .LtE) (rCmpU (fun i j => decide (i ≤ j)) fun a b => !decide (b < a)) := OpR.or op_le op_le_str
theorem op_gtU : OpR X (compareOp .Gt) (rCmpU (fun i j => decide (j < i)) fun a b => decide (b < a)) := OpR.or op_gt op_gt_str
theorem op_geU : OpR X (compareOp .GtE) (rCmpU (fun i j => decide (j ≤ i)) fun a b => !decide (a < b)) := OpR.or op_ge op_ge_str
/-- in: a sign in a text, a text in a text, a flat value in a list or tuple -/
def rInS1 (neg : Bool) : R2 := fun x y H Q => ∃ (c : Nat) (z : Str), x = .str ⟨#[c]⟩ ∧ y = .str z ∧ Q (.bl (if neg then !decide (c ∈ z.cps.toList) else decide (c ∈ z.cps.toList))) H
def rInU (K : PySem.W.Frag) (neg : Bool) : R2 := fun x y H Q => rInS1 neg x y H Q ∨ rIn K neg x y H Q
theorem op_inU : OpR X (compareOp .In) (rInU X.K false) := OpR.or op_in_sign op_in_seq
theorem op_notInU : OpR X (compareOp .NotIn) (rInU X.K true) := OpR.or op_notIn_sign op_notIn_seq
/-- slices -/
def rSlU (K : PySem.W.Frag) : V → Option Int → Option Int → Hp → VK → Prop := fun x lo hi H Q => rSlL K x lo hi H Q ∨ rSlA K x lo hi H Q ∨ rSlS x lo hi H Q
theorem sl_U : SlR X (rSlU X.K) := SlR.or sl_list (SlR.or sl_tupA sl_str)
end

section
variable {c : Cn} {R : Dv → Prop}
/-! ### arithmetic -/
theorem od_add {i j : Int} (k : R (.int (i + j))) : OD c (rAddU c.K) (.int i) (.int j) R := fun B H x y lv hx hy Q q => by
  cases hx; cases hy
  exact .inl ⟨i, j, rfl, rfl, q _ H _ (Same.refl _) (.int _) k⟩
theorem od_adds {a b : Str} (l : a.length + b.length ≤ sizeLine) (k : R (.str (a ++ b))) : OD c (rAddU c.K) (.str a) (.str b) R := fun B H x y lv hx hy Q q => by
  cases hx; cases hy
  exact .inr (.inl ⟨a, b, rfl, rfl, l, q _ H _ (Same.refl _) (.str _) k⟩)
theorem od_addl {ds es : List Dv} (l : ds.length + es.length ≤ sizeLine) (k : R (.lst (ds ++ es))) : OD c (rAddU c.K) (.lst ds) (.lst es) R := fun B H x y lv hx hy Q q => by
  cases hx with
  | lst q1 d1 =>
    cases hy with
    | lst q2 d2 =>
      refine .inr (.inr (.inl ⟨_, _, _, _, rfl, rfl, q1.2, q2.2, by rw [d1.length, d2.length]; exact l, fun p hp => ?_⟩))
      exact q _ _ _ (same_new hp _) (.lst (ql_new lv hp) (dta_same (same_new hp _) (d1.append d2))) k
theorem od_addt {ds es : List Dv} (l : ds.length + es.length ≤ sizeLine) (k : R (.tup (ds ++ es))) : OD c (rAddU c.K) (.tup ds) (.tup es) R := fun B H x y lv hx hy Q q => by
  have hx0 := hx
  have hy0 := hy
  cases hx with
  | tup q1 d1 =>
    cases hy with
    | tup q2 d2 =>
      refine .inr (.inr (.inr ⟨_, _, _, _, rfl, rfl, q1.sq, q2.sq, by rw [d1.length, d2.length]; exact l, fun e => ?_, fun _ e => ?_, fun _ _ p hp => ?_⟩))
      · subst e
        cases d1
        exact q _ H _ (Same.refl _) hy0 k
      · subst e
        cases d2
        rw [List.append_nil] at k
        exact q _ H _ (Same.refl _) hx0 k
      · exact q _ _ _ (same_new hp _) (.tup (qt_new lv hp) (dta_same (same_new hp _) (d1.append d2))) k
theorem od_sub {i j : Int} (k : R (.int (i - j))) : OD c (rI0 fun i j => .int (i - j)) (.int i) (.int j) R := fun B H x y lv hx hy Q q => by
  cases hx; cases hy
  exact ⟨i, j, rfl, rfl, q _ H _ (Same.refl _) (.int _) k⟩
theorem od_mul {i j : Int} (l : CMul i j) (k : R (.int (i * j))) : OD c rMulU (.int i) (.int j) R := fun B H x y lv hx hy Q q => by
  cases hx; cases hy
  exact .inl ⟨i, j, rfl, rfl, l, q _ H _ (Same.refl _) (.int _) k⟩
theorem dta_rep {wd : Wd} {B : Addr → Prop} {K : PySem.W.Frag} {H : Hp} {vs : List V} {ds : List Dv} (h : DtA wd B K H vs ds) : ∀ n : Nat, DtA wd B K H (List.replicate n vs).flatten (List.replicate n ds).flatten
  | 0 => .nil
  | n + 1 => by
    rw [List.replicate_succ, List.replicate_succ, List.flatten_cons, List.flatten_cons]
    exact h.append (dta_rep h n)
theorem od_rep {ds : List Dv} {n : Nat} (h2 : (n : Int) < 2 ^ 63) (l : ds.length * n ≤ sizeLine) (k : R (.lst (List.replicate n ds).flatten)) : OD c rMulU (.lst ds) (.int (n : Int)) R := fun B H x y lv hx hy Q q => by
  cases hy
  cases hx with
  | lst q1 d1 =>
    refine .inr ⟨_, _, _, rfl, rfl, q1.2, by omega, h2, by rw [d1.length]; simpa using l, fun p hp => ?_⟩
    exact q _ _ _ (same_new hp _) (.lst (ql_new lv hp) (dta_same (same_new hp _) (dta_rep d1 _))) (by simpa using k)
theorem od_fdiv {i j : Int} (l : CDiv i j) (k : R (.int (i / j))) : OD c (rI CDiv fun i j => .int (i / j)) (.int i) (.int j) R := fun B H x y lv hx hy Q q => by
  cases hx; cases hy
  exact ⟨i, j, rfl, rfl, l, q _ H _ (Same.refl _) (.int _) k⟩
theorem od_mod {i j : Int} (l : 0 < j) (k : R (.int (i % j))) : OD c (rI (fun _ j => 0 < j) fun i j => .int (i % j)) (.int i) (.int j) R := fun B H x y lv hx hy Q q => by
  cases hx; cases hy
  exact ⟨i, j, rfl, rfl, l, q _ H _ (Same.refl _) (.int _) k⟩
theorem od_pow {i j : Int} (l : CPow i j) (k : R (.int (i ^ j.toNat))) : OD c (rI CPow fun i j => .int (i ^ j.toNat)) (.int i) (.int j) R := fun B H x y lv hx hy Q q => by
  cases hx; cases hy
  exact ⟨i, j, rfl, rfl, l, q _ H _ (Same.refl _) (.int _) k⟩
theorem ud_neg {i : Int} (k : R (.int (-i))) : UD c (rU fun i => .int (-i)) (.int i) R := fun B H x lv hx Q q => by
  cases hx
  exact ⟨i, rfl, q _ H _ (Same.refl _) (.int _) k⟩
/-! ### comparisons -/
theorem od_cmp {f : Int → Int → Bool} {g : List Nat → List Nat → Bool} {i j : Int} (k : R (.bl (f i j))) : OD c (rCmpU f g) (.int i) (.int j) R := fun B H x y lv hx hy Q q => by
  cases hx; cases hy
  exact .inl ⟨i, j, rfl, rfl, q _ H _ (Same.refl _) (.bl _) k⟩
theorem od_cmps {f : Int → Int → Bool} {g : List Nat → List Nat → Bool} {a b : Str} (k : R (.bl (g a.cps.toList b.cps.toList))) : OD c (rCmpU f g) (.str a) (.str b) R := fun B H x y lv hx hy Q q => by
  cases hx; cases hy
  exact .inr ⟨a, b, rfl, rfl, q _ H _ (Same.refl _) (.bl _) k⟩
theorem od_eq {neg : Bool} {d e : Dv} (p : plain d = true ∧ plain e = true ∧ SeqAt.shaped (py d) = true ∧ SeqAt.shaped (py e) = true) (k : R (.bl (if neg then !PyData.eqv (py d) (py e) else PyData.eqv (py d) (py e)))) : OD c (rEqT c.K neg) d e R := fun B H x y lv hx hy Q q =>
  ⟨c.wd, B, d, e, hx, hy, p.1, p.2.1, p.2.2.1, p.2.2.2, q _ H _ (Same.refl _) (.bl _) k⟩
theorem od_ins {neg : Bool} {a : Nat} {z : Str} (k : R (.bl (if neg then !decide (a ∈ z.cps.toList) else decide (a ∈ z.cps.toList)))) : OD c (rInU c.K neg) (.str ⟨#[a]⟩) (.str z) R := fun B H x y lv hx hy Q q => by
  cases hx; cases hy
  exact .inl ⟨a, z, rfl, rfl, q _ H _ (Same.refl _) (.bl _) k⟩
/-- flat values, and == of them -/
def flatD : Dv → Bool
  | .non | .bl _ | .int _ | .str _ => true
  | _ => false
def eqD : Dv → Dv → Bool
  | .non, .non => true
  | .bl a, .bl b => a == b
  | .bl a, .int b => (if a then 1 else 0) == b
  | .int a, .bl b => a == (if b then 1 else 0)
  | .int a, .int b => a == b
  | .str a, .str b => a == b
  | _, _ => false
theorem flat_of {wd : Wd} {B : Addr → Prop} {K : PySem.W.Frag} {H : Hp} {v : V} {d : Dv} (h : Dt wd B K H v d) (f : flatD d = true) : flatV v = true := by cases h <;> first | rfl | simp [flatD] at f
theorem flatA_of {wd : Wd} {B : Addr → Prop} {K : PySem.W.Frag} {H : Hp} : ∀ {vs : List V} {ds : List Dv}, DtA wd B K H vs ds → ds.all flatD = true → vs.all flatV = true
  | _, _, .nil, _ => rfl
  | _, _, .cons a r, f => by
    simp only [List.all_cons, Bool.and_eq_true] at f ⊢
    exact ⟨flat_of a f.1, flatA_of r f.2⟩
theorem eq_of {wd : Wd} {B : Addr → Prop} {K : PySem.W.Frag} {H : Hp} {v u : V} {d e : Dv} (h : Dt wd B K H v d) (g : Dt wd B K H u e) (f : flatD d = true) (f' : flatD e = true) : eqV v u = eqD d e := by
  cases h <;> (try simp [flatD] at f) <;> cases g <;> first | rfl | simp [flatD] at f'
theorem inV_of {wd : Wd} {B : Addr → Prop} {K : PySem.W.Frag} {H : Hp} {v : V} {d : Dv} (h : Dt wd B K H v d) (f : flatD d = true) : ∀ {vs : List V} {ds : List Dv}, DtA wd B K H vs ds → ds.all flatD = true → inV v vs = ds.any fun e => eqD e d
  | _, _, .nil, _ => rfl
  | _, _, .cons a r, g => by
    simp only [List.all_cons, Bool.and_eq_true] at g
    have ih := inV_of h f r g.2
    unfold inV at ih ⊢
    rw [List.any_cons, List.any_cons, eq_of a h g.1 f, ih]
theorem od_inl {neg : Bool} {d : Dv} {ds : List Dv} (f : flatD d = true ∧ ds.all flatD = true) (k : R (.bl (if neg then !(ds.any fun e => eqD e d) else ds.any fun e => eqD e d))) : OD c (rInU c.K neg) d (.lst ds) R := fun B H x y lv hx hy Q q => by
  cases hy with
  | lst q2 d2 => exact .inr ⟨_, _, rfl, .inl q2.sq, flat_of hx f.1, flatA_of d2 f.2, q _ H _ (Same.refl _) (.bl _) (by rw [inV_of hx f.1 d2 f.2]; exact k)⟩
theorem od_int {neg : Bool} {d : Dv} {ds : List Dv} (f : flatD d = true ∧ ds.all flatD = true) (k : R (.bl (if neg then !(ds.any fun e => eqD e d) else ds.any fun e => eqD e d))) : OD c (rInU c.K neg) d (.tup ds) R := fun B H x y lv hx hy Q q => by
  cases hy with
  | tup q2 d2 => exact .inr ⟨_, _, rfl, .inr q2.sq, flat_of hx f.1, flatA_of d2 f.2, q _ H _ (Same.refl _) (.bl _) (by rw [inV_of hx f.1 d2 f.2]; exact k)⟩
/-! ### items and slices -/
theorem DtA.atI {wd : Wd} {B : Addr → Prop} {K : PySem.W.Frag} {H : Hp} {vs : List V} {ds : List Dv} {i : Int} {d : Dv} (h : DtA wd B K H vs ds) (e : L2.atI ds i = some d) : ∃ v, L2.atI vs i = some v ∧ Dt wd B K H v d := by
  unfold L2.atI at e ⊢
  rw [h.length]
  cases q : ixN ds.length i with
  | none => rw [q] at e; cases e
  | some j =>
    rw [q] at e
    exact h.get e
theorem od_ixl {ds : List Dv} {i : Int} {d : Dv} (e : L2.atI ds i = some d) (k : R d) : OD c (rIx c.K) (.lst ds) (.int i) R := fun B H x y lv hx hy Q q => by
  cases hy
  cases hx with
  | lst q1 d1 =>
    obtain ⟨v, h1, h2⟩ := d1.atI e
    exact .inl ⟨_, _, i, v, rfl, rfl, q1.sq, h1, q _ H _ (Same.refl _) h2 k⟩
theorem od_ixt {ds : List Dv} {i : Int} {d : Dv} (e : L2.atI ds i = some d) (k : R d) : OD c (rIx c.K) (.tup ds) (.int i) R := fun B H x y lv hx hy Q q => by
  cases hy
  cases hx with
  | tup q1 d1 =>
    obtain ⟨v, h1, h2⟩ := d1.atI e
    exact .inr (.inl ⟨_, _, i, v, rfl, rfl, q1.sq, h1, q _ H _ (Same.refl _) h2 k⟩)
theorem od_ixs {z : Str} {i : Int} {a : Nat} (l : z.length ≤ sizeLine) (e : L2.atI z.cps.toList i = some a) (k : R (.str ⟨#[a]⟩)) : OD c (rIx c.K) (.str z) (.int i) R := fun B H x y lv hx hy Q q => by
  cases hx; cases hy
  exact .inr (.inr ⟨z, i, a, rfl, rfl, l, e, q _ H _ (Same.refl _) (.str _) k⟩)
/-- a slice's parts -/
def PD (c : Cn) (t : TO) (n : Nat) (env : DL.Env) (S : Nat → Option Int → Prop) : Prop := ∀ B H σ, Rel c B n H σ env → ∀ Q : Option Int → Hp → Prop, (∀ o H' n', Rel c B n' H' σ env → Ext0 c.wd H H' → S n' o → Q o H') → t σ H Q
theorem pd_none {n : Nat} {env : DL.Env} {S : Nat → Option Int → Prop} (k : S n none) : PD c tNoPart n env S := fun B H σ r Q q => q none H n r (Ext0.refl _ _) k
theorem pd_some {n : Nat} {env : DL.Env} {te : TE} {S : Nat → Option Int → Prop} (h : ED c te n env fun n1 d => ∃ i, d = .int i ∧ S n1 (some i)) : PD c (tPart te) n env S := fun B H σ r Q q =>
  h B H σ r _ fun v H1 n1 d r1 e1 h1 ⟨i, e, k⟩ => by
    subst e
    cases h1
    exact ⟨i, rfl, q (some i) H1 n1 r1 e1 k⟩
/-- cut -/
def cutD (ds : List Dv) (lo hi : Option Int) : List Dv := (ds.drop (HT.sIx ds.length 0 lo)).take (HT.sIx ds.length ds.length hi - HT.sIx ds.length 0 lo)
theorem dta_drop {wd : Wd} {B : Addr → Prop} {K : PySem.W.Frag} {H : Hp} : ∀ {vs : List V} {ds : List Dv} (n : Nat), DtA wd B K H vs ds → DtA wd B K H (vs.drop n) (ds.drop n)
  | _, _, 0, h => h
  | _, _, _ + 1, .nil => .nil
  | _, _, n + 1, .cons _ r => dta_drop n r
theorem dta_take {wd : Wd} {B : Addr → Prop} {K : PySem.W.Frag} {H : Hp} : ∀ {vs : List V} {ds : List Dv} (n : Nat), DtA wd B K H vs ds → DtA wd B K H (vs.take n) (ds.take n)
  | _, _, 0, _ => .nil
  | _, _, _ + 1, .nil => .nil
  | _, _, n + 1, .cons a r => .cons a (dta_take n r)
theorem dta_cut {wd : Wd} {B : Addr → Prop} {K : PySem.W.Frag} {H : Hp} {vs : List V} {ds : List Dv} (h : DtA wd B K H vs ds) (lo hi : Option Int) : DtA wd B K H (cutV vs lo hi) (cutD ds lo hi) := by
  unfold cutV cutD
  rw [h.length]
  exact dta_take _ (dta_drop _ h)
/-- a slice of a tree -/
def SlD (d : Dv) (lo hi : Option Int) (R : Dv → Prop) : Prop := match d with
  | .lst ds => R (.lst (cutD ds lo hi))
  | .tup ds => R (.tup (cutD ds lo hi))
  | .str z => z.length ≤ sizeLine ∧ R (.str (cutS z lo hi))
  | .scr ns => R (.lst ((ns.drop (HT.sIx ns.length 0 lo)).take (HT.sIx ns.length ns.length hi - HT.sIx ns.length 0 lo) |>.map Dv.int))
  | _ => False
theorem dta_ints {wd : Wd} {B : Addr → Prop} {K : PySem.W.Frag} {H : Hp} : ∀ ns : List Int, DtA wd B K H (ns.map V.int) (ns.map Dv.int)
  | [] => .nil
  | n :: ns => .cons (.int n) (dta_ints ns)
theorem ed_sl {n : Nat} {env : DL.Env} {te : TE} {tl th : TO} {R : Nat → Dv → Prop} (h : ED c te n env fun n1 d => PD c tl n1 env fun n2 lo => PD c th n2 env fun n3 hi => SlD d lo hi (R n3)) : ED c (tSl (rSlU c.K) te tl th) n env R := fun B H σ r Q q =>
  h B H σ r _ fun v H1 n1 d r1 e1 h1 k1 => k1 B H1 σ r1 _ fun lo H2 n2 r2 e2 k2 => k2 B H2 σ r2 _ fun hi H3 n3 r3 e3 k3 => by
    have hv := r2.dt e3 (r1.dt e2 h1)
    have ee := (e1.trans e2).trans e3
    cases hv with
    | non => exact k3.elim
    | bl => exact k3.elim
    | int => exact k3.elim
    | str z => exact .inr (.inr ⟨z, rfl, k3.1, q _ H3 n3 _ r3 ee (.str _) k3.2⟩)
    | @tup ta txs tds q1 d1 =>
      refine .inr (.inl ⟨_, _, rfl, q1.sq, fun e => ?_, fun _ p hp => ?_⟩)
      · refine q _ H3 n3 _ r3 ee (.tup q1 ?_) k3
        have := dta_cut d1 lo hi
        have e' : cutV txs lo hi = txs := by unfold cutV; rw [e.1, e.2, List.drop_zero, Nat.sub_zero, List.take_length]
        rw [e'] at this
        exact this
      · exact q _ _ n3 _ (r3.same (same_new hp _)) (ee.trans (Ext0.same (same_new hp _))) (.tup (qt_new r3.live hp) (dta_same (same_new hp _) (dta_cut d1 lo hi))) k3
    | lst q1 d1 =>
      refine .inl ⟨_, _, rfl, q1.sq, fun p hp => ?_⟩
      exact q _ _ n3 _ (r3.same (same_new hp _)) (ee.trans (Ext0.same (same_new hp _))) (.lst (ql_new r3.live hp) (dta_same (same_new hp _) (dta_cut d1 lo hi))) k3
    | dic _ _ _ => exact k3.elim
    | ins _ _ _ _ _ => exact k3.elim
    | dct _ _ _ => exact k3.elim
    | deck _ => exact k3.elim
    | @scr _ ns q1 =>
      refine .inl ⟨_, _, rfl, q1.sq, fun p hp => ?_⟩
      refine q _ _ n3 _ (r3.same (same_new hp _)) (ee.trans (Ext0.same (same_new hp _))) (.lst (ql_new r3.live hp) (dta_same (same_new hp _) ?_)) k3
      have e' : cutV (ns.map V.int) lo hi = ((ns.drop (HT.sIx ns.length 0 lo)).take (HT.sIx ns.length ns.length hi - HT.sIx ns.length 0 lo)).map V.int := by
        unfold cutV
        rw [List.length_map, ← List.map_drop, ← List.map_take]
      rw [e']
      exact dta_ints _
/-- xs[::-1] of a list -/
theorem dta_rev {wd : Wd} {B : Addr → Prop} {K : PySem.W.Frag} {H : Hp} : ∀ {vs : List V} {ds : List Dv}, DtA wd B K H vs ds → DtA wd B K H vs.reverse ds.reverse
  | _, _, .nil => .nil
  | _, _, .cons a r => by
    rw [List.reverse_cons, List.reverse_cons]
    exact (dta_rev r).append (.cons a .nil)
theorem ed_rev {n : Nat} {env : DL.Env} {te : TE} {R : Nat → Dv → Prop} (h : ED c te n env fun n1 d => ∃ ds, d = .lst ds ∧ R n1 (.lst ds.reverse)) : ED c (tRevL c.K te) n env R := fun B H σ r Q q =>
  h B H σ r _ fun v H1 n1 d r1 e1 h1 ⟨ds, e, k⟩ => by
    subst e
    cases h1 with
    | lst q1 d1 =>
      refine ⟨_, _, rfl, q1.sq, fun p hp => ?_⟩
      exact q _ _ n1 _ (r1.same (same_new hp _)) (e1.trans (Ext0.same (same_new hp _))) (.lst (ql_new r1.live hp) (dta_same (same_new hp _) (dta_rev d1))) k
/-! ### built-ins -/
/-- len -/
def lenD : Dv → Option Nat
  | .str x => if x.length ≤ sizeLine then some x.length else none
  | .tup ds => some ds.length
  | .lst ds => some ds.length
  | .scr ns => some ns.length
  | _ => none
theorem cd_len {d : Dv} {m : Nat} (e : lenD d = some m) (k : R (.int m)) : CD c (fun xs H Q => ∃ x n, xs = [x] ∧ LenV c.K x H n ∧ Q (.int n) H) [d] R := fun B H xs lv hx Q q => by
  cases hx with
  | cons a b =>
    cases b
    refine ⟨_, m, rfl, ?_, q _ H _ (Same.refl _) (.int _) k⟩
    cases a with
    | str x =>
      simp only [lenD] at e
      split at e
      · cases e; exact ⟨‹_›, rfl⟩
      · cases e
    | tup q1 d1 => cases e; exact .inr ⟨_, q1.sq, d1.length.symm⟩
    | lst q1 d1 => cases e; exact .inl ⟨_, QL.sq q1, d1.length.symm⟩
    | scr q1 => cases e; exact .inl ⟨_, q1.sq, by simp⟩
    | non => cases e
    | bl => cases e
    | int => cases e
    | dic _ _ _ => cases e
    | ins _ _ _ _ _ => cases e
    | dct _ _ _ => cases e
    | deck _ => cases e
theorem cd_int {i : Int} (k : R (.int i)) : CD c (fun xs H Q => (∃ i, xs = [.int i] ∧ Q (.int i) H) ∨ ∃ k, xs = [.bl k] ∧ Q (.int (if k then 1 else 0)) H) [.int i] R := fun B H xs lv hx Q q => by
  cases hx with
  | cons a b =>
    cases a
    cases b
    exact .inl ⟨i, rfl, q _ H _ (Same.refl _) (.int _) k⟩
theorem cd_str {i : Int} (l : i.natAbs.log2 < 1920) (k : R (.str (toString i))) : CD c (fun xs H Q => ∃ i, xs = [.int i] ∧ i.natAbs.log2 < 1920 ∧ Q (.str (toString i)) H) [.int i] R := fun B H xs lv hx Q q => by
  cases hx with
  | cons a b =>
    cases a
    cases b
    exact ⟨i, rfl, l, q _ H _ (Same.refl _) (.str _) k⟩
def rListOf (K : PySem.W.Frag) : List V → Hp → VK → Prop := fun xs H Q => ∃ p ys, xs = [.ref p] ∧ (SqL K H p ys ∨ SqT K H p ys) ∧ ∀ l, H l = none → Q (.ref l) (upd H l (.lst ys))
def seqD : Dv → Option (List Dv)
  | .tup ds => some ds
  | .lst ds => some ds
  | _ => none
theorem cd_list {d : Dv} {ds : List Dv} (e : seqD d = some ds) (k : R (.lst ds)) : CD c (rListOf c.K) [d] R := fun B H xs lv hx Q q => by
  cases hx with
  | cons a b =>
    cases b
    cases a with
    | tup q1 d1 =>
      cases e
      refine ⟨_, _, rfl, .inr q1.sq, fun p hp => ?_⟩
      exact q _ _ _ (same_new hp _) (.lst (ql_new lv hp) (dta_same (same_new hp _) d1)) k
    | lst q1 d1 =>
      cases e
      refine ⟨_, _, rfl, .inl (QL.sq q1), fun p hp => ?_⟩
      exact q _ _ _ (same_new hp _) (.lst (ql_new lv hp) (dta_same (same_new hp _) d1)) k
    | _ => cases e
def rTupOf (K : PySem.W.Frag) : List V → Hp → VK → Prop := fun xs H Q => ∃ p ys, xs = [.ref p] ∧ ((SqL K H p ys ∧ ∀ l, H l = none → Q (.ref l) (upd H l (.tup ys))) ∨ (SqT K H p ys ∧ Q (.ref p) H))
theorem cd_tuple {d : Dv} {ds : List Dv} (e : seqD d = some ds) (k : R (.tup ds)) : CD c (rTupOf c.K) [d] R := fun B H xs lv hx Q q => by
  cases hx with
  | cons a b =>
    cases b
    cases a with
    | tup q1 d1 =>
      cases e
      exact ⟨_, _, rfl, .inr ⟨q1.sq, q _ H _ (Same.refl _) (.tup q1 d1) k⟩⟩
    | lst q1 d1 =>
      cases e
      refine ⟨_, _, rfl, .inl ⟨QL.sq q1, fun p hp => ?_⟩⟩
      exact q _ _ _ (same_new hp _) (.tup (qt_new lv hp) (dta_same (same_new hp _) d1)) k
    | _ => cases e
theorem dta_ints_back {wd : Wd} {B : Addr → Prop} {K : PySem.W.Frag} {H : Hp} : ∀ {vs : List V} {ns : List Int}, DtA wd B K H vs (ns.map Dv.int) → vs = ns.map V.int
  | _, [], .nil => rfl
  | _, n :: ns, .cons a r => by
    cases a
    rw [dta_ints_back r]
    rfl
theorem dta_strs_back {wd : Wd} {B : Addr → Prop} {K : PySem.W.Frag} {H : Hp} : ∀ {vs : List V} {ns : List Str}, DtA wd B K H vs (ns.map Dv.str) → vs = ns.map V.str
  | _, [], .nil => rfl
  | _, n :: ns, .cons a r => by
    cases a
    rw [dta_strs_back r]
    rfl
theorem dta_bls_back {wd : Wd} {B : Addr → Prop} {K : PySem.W.Frag} {H : Hp} : ∀ {vs : List V} {ns : List Bool}, DtA wd B K H vs (ns.map Dv.bl) → vs = ns.map V.bl
  | _, [], .nil => rfl
  | _, n :: ns, .cons a r => by
    cases a
    rw [dta_bls_back r]
    rfl
theorem dta_strs {wd : Wd} {B : Addr → Prop} {K : PySem.W.Frag} {H : Hp} : ∀ ns : List Str, DtA wd B K H (ns.map V.str) (ns.map Dv.str)
  | [] => .nil
  | n :: ns => .cons (.str n) (dta_strs ns)
theorem cd_sum {ns : List Int} (k : R (.int ns.sum)) : CD c (rSum c.K) [.lst (ns.map Dv.int)] R := fun B H xs lv hx Q q => by
  cases hx with
  | cons a b =>
    cases b
    cases a with
    | lst q1 d1 =>
      cases dta_ints_back d1
      exact ⟨_, ns, rfl, QL.sq q1, q _ H _ (Same.refl _) (.int _) k⟩
theorem cd_all {bs : List Bool} (k : R (.bl (bs.all id))) : CD c (rAll c.K) [.lst (bs.map Dv.bl)] R := fun B H xs lv hx Q q => by
  cases hx with
  | cons a b =>
    cases b
    cases a with
    | lst q1 d1 =>
      cases dta_bls_back d1
      exact ⟨_, bs, rfl, QL.sq q1, q _ H _ (Same.refl _) (.bl _) k⟩
theorem cd_sortedS {ss : List Str} (l : ss.length < 64) (k : ∀ ys : List Str, ys.Perm ss → PyProof.Rows.sortedS ys = true → R (.lst (ys.map Dv.str))) : CD c (rSortedS c.K) [.lst (ss.map Dv.str)] R := fun B H xs lv hx Q q => by
  cases hx with
  | cons a b =>
    cases b
    cases a with
    | lst q1 d1 =>
      cases dta_strs_back d1
      refine ⟨_, ss, rfl, QL.sq q1, l, fun ys p hp hs hn => ?_⟩
      exact q _ _ _ (same_new hn _) (.lst (ql_new lv hn) (dta_strs ys)) (k ys hp hs)
/-- repr -/
theorem cd_repr {d : Dv} (p : plain d = true) (hs : (py d).showable = true) (hd : (py d).depth ≤ 60) (hz : (py d).shown.length ≤ sizeLine) (k : R (.str (py d).shown)) : CD c (rRepr c.K) [d] R := fun B H xs lv hx Q q => by
  cases hx with
  | cons a b =>
    cases b
    exact ⟨c.wd, B, _, d, rfl, a, p, hs, hd, hz, q _ H _ (Same.refl _) (.str _) k⟩
/-- isinstance(x, T), T a built-in type -/
def tyD : Dv → Option String
  | .non => some "NoneType"
  | .bl _ => some "bool"
  | .int _ => some "int"
  | .str _ => some "str"
  | .tup _ => some "tuple"
  | .lst _ => some "list"
  | .dic _ => some "dict"
  | _ => none
theorem tyx_of {wd : Wd} {B : Addr → Prop} {K : PySem.W.Frag} {H : Hp} {v : V} {d : Dv} {T : String} (h : Dt wd B K H v d) (e : tyD d = some T) : TyX K H v (.type T) := by
  cases h with
  | non => cases e; exact .base .non
  | bl b => cases e; exact .base (.bl b)
  | int i => cases e; exact .base (.int i)
  | str x => cases e; exact .base (.str x)
  | tup q1 d1 =>
    cases e
    exact .base (.tup q1.2)
  | lst q1 d1 => cases e; exact .base (.lst q1.2)
  | dic _ q _ => cases e; exact .base (.dK q)
  | ins _ _ _ _ _ => cases e
  | dct _ _ _ => cases e
  | deck _ => cases e
  | scr _ => cases e
theorem ed_isi {n : Nat} {env : DL.Env} {te : TE} {T : String} {R : Nat → Dv → Prop} (h : ED c te n env fun n1 d => ∃ a b, tyD d = some a ∧ kitB a T = some b ∧ R n1 (.bl b)) : ED c (tCB (rIsi c.K) (tCons te (tCons (tC (.ty T)) tNil))) n env R := fun B H σ r Q q =>
  h B H σ r _ fun v H1 n1 d r1 e1 h1 ⟨a, b, ha, hb, k⟩ => ⟨v, .ty T, .type a, .type T, b, rfl, .ty T, tyx_of h1 ha, kit_ty hb, q _ H1 n1 _ r1 e1 (.bl b) k⟩
/-- which values isinstance takes for T -/
def isK (T : String) : Dv → Bool
  | .bl _ => T == "bool" || T == "int"
  | .int _ => T == "int"
  | .str _ => T == "str"
  | .tup _ => T == "tuple"
  | .lst _ => T == "list"
  | .dic _ => T == "dict"
  | _ => false
def kn (a T : String) : Bool := a == T || (a == "bool" && T == "int")
theorem kn_all : ∀ a ∈ ["NoneType", "bool", "int", "str", "tuple", "list", "dict"], ∀ T ∈ ["bool", "int", "str", "tuple", "list", "dict"], kitB a T = some (kn a T) := by decide +kernel
theorem isK_kn {d : Dv} {a T : String} (ha : tyD d = some a) (hT : T ∈ ["bool", "int", "str", "tuple", "list", "dict"]) : isK T d = kn a T := by
  simp only [List.mem_cons, List.not_mem_nil, or_false] at hT
  cases d <;> simp only [tyD] at ha <;> (try cases ha) <;> rcases hT with rfl | rfl | rfl | rfl | rfl | rfl <;> rfl
theorem tyD_mem {d : Dv} {a : String} (ha : tyD d = some a) : a ∈ ["NoneType", "bool", "int", "str", "tuple", "list", "dict"] := by
  cases d <;> simp only [tyD] at ha <;> cases ha <;> simp
theorem kit_is {d : Dv} {a T : String} (ha : tyD d = some a) (hT : T ∈ ["bool", "int", "str", "tuple", "list", "dict"]) : kitB a T = some (isK T d) := by
  rw [isK_kn ha hT]
  exact kn_all a (tyD_mem ha) T hT
theorem ed_is {n : Nat} {env : DL.Env} {te : TE} {T : String} {R : Nat → Dv → Prop} (hT : T ∈ ["bool", "int", "str", "tuple", "list", "dict"]) (h : ED c te n env fun n1 d => (tyD d).isSome = true ∧ R n1 (.bl (isK T d))) : ED c (tCB (rIsi c.K) (tCons te (tCons (tC (.ty T)) tNil))) n env R :=
  ed_isi (ed_mono h fun n d ⟨h1, h2⟩ => by
    obtain ⟨a, ha⟩ := Option.isSome_iff_exists.mp h1
    exact ⟨a, _, ha, kit_is ha hT, h2⟩)
end
end DL

set_option Elab.async false
set_option linter.all false
set_option maxRecDepth 100000
set_option maxHeartbeats 2000000
/-! D7: defs by name, displays of dicts, parallel stores, join, chains. -/
namespace DL
open PySem PySem.Spec L2

/-! ### a def of the text, by its name -/
structure Df (P : Program) (w : World) (K : PySem.W.Frag) (mg : Str → Option Value) (base : Heap) (k : Nat) (x : Str) (ps : List Str) (C : Ct) (f : Addr) (fd : FuncData) : Prop where
  m : mg x = some (.ref f)
  kp : PySem.W.keepIn K (.ref f) = true
  b : Binds K fd ps []
  g : FnG P w K mg base CX0 k f fd ps (spD K mg C)
section
variable {X : Cx} {k : Nat} {f : Addr} {fd : FuncData} {ps ks : List Str} {C : Ct} {x : Str} {p pos : Pos} {e : Expr} {es : List Expr} {kws : List Keyword} {t tk : TA} {g : List Value → List Value → List Value} {gV : List V → List V → List V}
theorem pe_df (D : Df X.prog X.w X.K X.mg X.base k x ps C f fd) (hgd : X.A.guards = some []) (hr : Room k X.A) (hg : Gl X x) (ha : PA X (e :: es) t)
    (hdb : (x == ("__debug__" : Str)) = false := by decide) (he : starEach (e :: es) X.env = (false, eval e X.env) :: starEach es X.env := by rfl) (hpl : (backTo pos (starEach es X.env)).any (·.1) = false := by rfl) :
    PE X (.Call (.Name x p) (e :: es) [] pos) (tCall (spD X.K X.mg C) [] E0 t) := pe_cG D.g hgd hr hg D.m D.kp D.b pass0 ha hdb he hpl
theorem pe_df0 (D : Df X.prog X.w X.K X.mg X.base k x [] C f fd) (hgd : X.A.guards = some []) (hr : Room k X.A) (hg : Gl X x) (hdb : (x == ("__debug__" : Str)) = false := by decide) :
    PE X (.Call (.Name x p) [] [] pos) (tCall (spD X.K X.mg C) [] E0 tNil) := pe_cG0 D.g hgd hr hg D.m D.kp D.b pass0 hdb
theorem pe_dfK (D : Df X.prog X.w X.K X.mg X.base k x ps C f fd) (hb : KBinds X.K fd ps ks g gV) (hgd : X.A.guards = some []) (hr : Room k X.A) (hg : Gl X x) (ha : PA X (e :: es) t) (hkw : PK X kws tk)
    (hall : (backToKw pos (keywordEach kws X.env)).all (·.1.isSome) = true := by rfl) (hks : (backToKw pos (keywordEach kws X.env)).filterMap (·.1) = ks := by rfl)
    (hdb : (x == ("__debug__" : Str)) = false := by decide) (he : starEach (e :: es) X.env = (false, eval e X.env) :: starEach es X.env := by rfl)
    (hpl : ((backTo pos (starEach (e :: es) X.env)).any (·.1) || (backToKw pos (keywordEach kws X.env)).any (·.1.isNone)) = false := by rfl) :
    PE X (.Call (.Name x p) (e :: es) kws pos) (tCallK (spD X.K X.mg C) gV E0 t tk) := pe_cGK D.g hgd hr hg D.m D.kp hb pass0 ha hkw hall hks hdb he hpl
theorem pe_dfK0 (D : Df X.prog X.w X.K X.mg X.base k x ps C f fd) (hb : KBinds X.K fd ps ks g gV) (hgd : X.A.guards = some []) (hr : Room k X.A) (hg : Gl X x) (hkw : PK X kws tk)
    (hall : (backToKw pos (keywordEach kws X.env)).all (·.1.isSome) = true := by rfl) (hks : (backToKw pos (keywordEach kws X.env)).filterMap (·.1) = ks := by rfl)
    (hdb : (x == ("__debug__" : Str)) = false := by decide)
    (hpl : ((backTo pos (starEach [] X.env)).any (·.1) || (backToKw pos (keywordEach kws X.env)).any (·.1.isNone)) = false := by rfl) :
    PE X (.Call (.Name x p) [] kws pos) (tCallK (spD X.K X.mg C) gV E0 tNil tk) := pe_cGK0 D.g hgd hr hg D.m D.kp hb pass0 hkw hall hks hdb hpl
/-- what a keyword call asks of the def -/
theorem kbinds_of {K : PySem.W.Frag} {x qual : Str} {st : Stmt} {f : Addr} {fd : FuncData} (F : Fun K x qual st f fd)
    (h : ∀ (kV doc pm : Value) (an : Option Addr) (cdv ct : Value) (us ws : List Value), (g us ws).length = ps.length → bindArgs (PySem.W.fnOf x qual (defArgs st) (defBody st) (defScope st) .none kV doc pm an cdv ct) ⟨us, ks.zip ws⟩ = pure (ps.zip (g us ws)))
    (r : ∀ {vs : List V} {us : List Value} {zs : List V} {ws : List Value}, Vals vs us → Vals zs ws → Vals (gV vs zs) (g us ws)) : KBinds K fd ps ks g gV := by
  obtain ⟨oc, od, kV, doc, pm, an, cdv, ct, osl, rfl, lk, hcd⟩ := F.ex
  exact ⟨fun s us ws _ hl => .of_eq (h kV doc pm an cdv ct us ws hl), r⟩
end

/-! ### dicts that are displayed -/
section
variable {c : Cn} {n : Nat} {env : DL.Env} {N : DN} {te ta tb tc td ty : TE}
def keyD : Dv → Option Key
  | .int i => some (.inl i)
  | .str x => some (.inr x)
  | _ => none
/-- the pairs of a display -/
def PPD (c : Cn) (trs : List (TE × TE)) (n : Nat) (env : DL.Env) (R : Nat → List (Key × Dv) → Prop) : Prop := ∀ B H σ, Rel c B n H σ env → ∀ Q : List (V × V) → Hp → Prop,
  (∀ kvs H' n' es, Rel c B n' H' σ env → Ext0 c.wd H H' → DtK c.wd B c.K H' kvs es → R n' es → Q (kvs.map fun kv => (kV kv.1, kv.2)) H') → tPairs trs σ H Q
theorem ppd_nil {R : Nat → List (Key × Dv) → Prop} (k : R n []) : PPD c [] n env R := fun B H σ r Q q => q [] H n [] r (Ext0.refl _ _) .nil k
theorem Rel.dtk {B : Addr → Prop} {H H' : Hp} {σ : L2.St} (R : Rel c B n H σ env) (e : Ext0 c.wd H H') {v : List (Key × V)} {d : List (Key × Dv)} (h : DtK c.wd B c.K H v d) : DtK c.wd B c.K H' v d := DtK.move (R.keeps e) (fun _ z => .inl z) d v h
theorem ppd_cons {trs : List (TE × TE)} {R : Nat → List (Key × Dv) → Prop} (h : ED c ta n env fun n1 dk => ∃ k, keyD dk = some k ∧ ED c tb n1 env fun n2 d => PPD c trs n2 env fun n3 es => R n3 ((k, d) :: es)) : PPD c ((ta, tb) :: trs) n env R := fun B H σ r Q q =>
  h B H σ r _ fun v H1 n1 dk r1 e1 h1 ⟨k, hk, k1⟩ => k1 B H1 σ r1 _ fun u H2 n2 d r2 e2 h2 k2 => k2 B H2 σ r2 _ fun kvs H3 n3 es r3 e3 h3 k3 => by
    have hv : v = kV k := by cases h1 <;> simp only [keyD] at hk <;> cases hk <;> rfl
    subst hv
    exact q ((k, u) :: kvs) H3 n3 ((k, d) :: es) r3 ((e1.trans e2).trans e3) (.cons (r2.dt e3 h2) h3) k3
def putD (es : List (Key × Dv)) (k : Key) (v : Dv) : List (Key × Dv) :=
  if (es.any fun kv => decide (kv.1 = k)) = true then es.map (fun kv => if kv.1 = k then (kv.1, v) else kv) else es ++ [(k, v)]
def mergeD (es more : List (Key × Dv)) : List (Key × Dv) := more.foldl (fun acc kv => putD acc kv.1 kv.2) es
theorem DtK.any {wd : Wd} {B : Addr → Prop} {K : PySem.W.Frag} {H : Hp} (k : Key) : ∀ {vs : List (Key × V)} {ds : List (Key × Dv)}, DtK wd B K H vs ds → (vs.any fun kv => decide (kv.1 = k)) = ds.any fun kv => decide (kv.1 = k)
  | _, _, .nil => rfl
  | _, _, .cons _ r => by rw [List.any_cons, List.any_cons, DtK.any k r]
theorem DtK.append {wd : Wd} {B : Addr → Prop} {K : PySem.W.Frag} {H : Hp} : ∀ {vs us : List (Key × V)} {ds es : List (Key × Dv)}, DtK wd B K H vs ds → DtK wd B K H us es → DtK wd B K H (vs ++ us) (ds ++ es)
  | _, _, _, _, .nil, h => h
  | _, _, _, _, .cons a r, h => .cons a (r.append h)
theorem DtK.maps {wd : Wd} {B : Addr → Prop} {K : PySem.W.Frag} {H : Hp} {v : V} {d : Dv} (k : Key) (hd : Dt wd B K H v d) : ∀ {vs : List (Key × V)} {ds : List (Key × Dv)}, DtK wd B K H vs ds →
    DtK wd B K H (vs.map fun kv => if kv.1 = k then (kv.1, v) else kv) (ds.map fun kv => if kv.1 = k then (kv.1, d) else kv)
  | _, _, .nil => .nil
  | _, _, .cons (k := k') a r => by
    rw [List.map_cons, List.map_cons]
    by_cases e : k' = k
    · simp only [e, if_true]
      exact .cons hd (DtK.maps k hd r)
    · simp only [e, if_false]
      exact .cons a (DtK.maps k hd r)
theorem DtK.put {wd : Wd} {B : Addr → Prop} {K : PySem.W.Frag} {H : Hp} {v : V} {d : Dv} {vs : List (Key × V)} {ds : List (Key × Dv)} (h : DtK wd B K H vs ds) (k : Key) (hd : Dt wd B K H v d) : DtK wd B K H (putK vs k v) (putD ds k d) := by
  unfold putK putD
  rw [h.any k]
  split
  · exact h.maps k hd
  · exact h.append (.cons hd .nil)
theorem DtK.merge {wd : Wd} {B : Addr → Prop} {K : PySem.W.Frag} {H : Hp} : ∀ {us : List (Key × V)} {es : List (Key × Dv)} {vs : List (Key × V)} {ds : List (Key × Dv)}, DtK wd B K H us es → DtK wd B K H vs ds → DtK wd B K H (mergeK vs us) (mergeD ds es)
  | _, _, _, _, .nil, h => h
  | (k, v) :: us, (_, d) :: es, vs, ds, .cons a r, h => by
    show DtK wd B K H (mergeK (putK vs k v) us) (mergeD (putD ds k d) es)
    exact DtK.merge r (h.put k a)
theorem DtK.length {wd : Wd} {B : Addr → Prop} {K : PySem.W.Frag} {H : Hp} : ∀ {vs : List (Key × V)} {ds : List (Key × Dv)}, DtK wd B K H vs ds → vs.length = ds.length
  | _, _, .nil => rfl
  | _, _, .cons _ r => congrArg Nat.succ r.length
theorem ed_disp {trs : List (TE × TE)} {R : Nat → Dv → Prop} (h : PPD c trs n env fun n1 es => es.length ≤ 15 ∧ R n1 (.dic (mergeD [] es))) : ED c (tDisp trs) n env R := fun B H σ r Q q p hp => by
  have nD : ¬ B p := r.new hp
  have nk : ¬ Dk c.wd p := fun z => nD (r.dk p z)
  refine h (fun a => B a ∨ a = p) _ σ (r.more hp (.dK [])) _ fun kvs H2 n2 es r2 e2 h2 ⟨l, k⟩ => ?_
  have hp2 : H2 p = some (.dK []) := e2 p _ upd_same nk
  refine ⟨hp2, kvs, rfl, by rw [h2.length]; exact l, ?_⟩
  have noOwn : ∀ (i : Nat) (o : Ob), env[i]? = some (some (.own o)) → σ[i]? ≠ some (some (.ref p)) := fun i o hi hs => by
    obtain ⟨a, e, b, _⟩ := r.own i o hi
    rw [e] at hs
    cases hs
    exact nD b
  have r3 := r2.turnP (.inr rfl) nk (r.newHe hp) noOwn (.dK (mergeK [] kvs))
  have keepB : ∀ a o, H2 a = some o → ¬ (B a ∨ a = p) → upd H2 p (.dK (mergeK [] kvs)) a = some o := fun a o q z => by
    rw [upd_ne (show a ≠ p from fun w => z (.inr w))]
    exact q
  have rF : Rel c B n2 (upd H2 p (.dK (mergeK [] kvs))) σ env := r3.fewer r.sub (fun a z => .inl z) r.dk fun i o a hi hs => by
    obtain ⟨a', e, b, _⟩ := r.own i o hi
    rw [e] at hs
    cases hs
    exact b
  refine q _ _ n2 _ rF (fun a o qa z => ?_) (.dic nD upd_same ?_) k
  · have na : a ≠ p := fun w => by rw [w, hp] at qa; cases qa
    rw [upd_ne na]
    exact e2 a o (by rw [upd_ne na]; exact qa) z
  · exact DtK.merge (DtK.move keepB (fun a z => .inl (.inl z)) _ _ h2) .nil
/-- d[k] -/
def lkD (es : List (Key × Dv)) (k : Key) : Option Dv := (es.find? fun kv => decide (kv.1 = k)).map (·.2)
theorem DtK.lk {wd : Wd} {B : Addr → Prop} {K : PySem.W.Frag} {H : Hp} (k : Key) : ∀ {vs : List (Key × V)} {ds : List (Key × Dv)} {d : Dv}, DtK wd B K H vs ds → lkD ds k = some d → ∃ v, valV vs k = some v ∧ Dt wd B K H v d
  | _, _, _, .nil, h => by simp [lkD] at h
  | _, _, d, .cons (k := k') (v := v') a r, h => by
    unfold lkD at h
    unfold valV
    rw [List.find?_cons] at h ⊢
    by_cases e : k' = k
    · simp only [e, decide_true] at h ⊢
      cases h
      exact ⟨_, rfl, a⟩
    · simp only [e, decide_false] at h ⊢
      exact DtK.lk k r h
theorem ed_dget {R : Nat → Dv → Prop} (h : ED c td n env fun n1 d => ED c ty n1 env fun n2 dk => ∃ es k v, d = .dic es ∧ keyD dk = some k ∧ lkD es k = some v ∧ R n2 v) : ED c (tDGet td ty) n env R := fun B H σ r Q q =>
  h B H σ r _ fun v H1 n1 d r1 e1 h1 k1 => k1 B H1 σ r1 _ fun u H2 n2 dk r2 e2 h2 ⟨es, k, w, ed, hk, hl, k2⟩ => by
    subst ed
    have hv := r1.dt e2 h1
    have hu : u = kV k := by cases h2 <;> simp only [keyD] at hk <;> cases hk <;> rfl
    subst hu
    cases hv with
    | dic nb ha hd =>
      obtain ⟨x, hx, hxd⟩ := hd.lk k hl
      exact ⟨_, x, rfl, .inl ⟨_, k, .inl ha, rfl, hx.symm⟩, q x H2 n2 w r2 (e1.trans e2) hxd k2⟩
/-! ### parallel stores -/
theorem sd_par {i j : Nat} {t : TA} (h : AD c t n env fun n1 ds => ∃ d e, ds = [d, e] ∧ N.nx n1 ((env.set i (some (.fz d))).set j (some (.fz e)))) : SD c (tPar i j t) n env N := fun B H σ b r D l =>
  h B H σ r _ fun vs H1 n1 ds r1 e1 h1 ⟨d, e, ed, k⟩ => by
    subst ed
    cases h1 with
    | cons a r =>
      cases r with
      | cons a2 r =>
        cases r
        exact ⟨_, _, rfl, l.nx B H1 _ n1 _ (Step.ext ‹_› e1) b ((r1.set i a).set j a2) k⟩
theorem sd_par3 {i j m : Nat} {t : TA} (h : AD c t n env fun n1 ds => ∃ d e f, ds = [d, e, f] ∧ N.nx n1 (((env.set i (some (.fz d))).set j (some (.fz e))).set m (some (.fz f)))) : SD c (tPar3 i j m t) n env N := fun B H σ b r D l =>
  h B H σ r _ fun vs H1 n1 ds r1 e1 h1 ⟨d, e, f, ed, k⟩ => by
    subst ed
    cases h1 with
    | cons a r =>
      cases r with
      | cons a2 r =>
        cases r with
        | cons a3 r =>
          cases r
          exact ⟨_, _, _, rfl, l.nx B H1 _ n1 _ (Step.ext ‹_› e1) b (((r1.set i a).set j a2).set m a3) k⟩
/-! ### join, chains -/
def rJoin (K : PySem.W.Frag) : V → List V → Hp → VK → Prop := fun x xs H Q => ∃ a p, ∃ ys : List Str, x = .str a ∧ xs = [.ref p] ∧ (SqL K H p (ys.map V.str) ∨ SqT K H p (ys.map V.str)) ∧ (ys.map (·.length)).sum + ys.length * a.length ≤ 16777216 ∧ Q (.str (Txt.join a ys)) H
theorem ed_join {R : Nat → Dv → Prop} (h : ED c ta n env fun n1 d => ∃ a, d = .str a ∧ ED c tb n1 env fun n2 e => ∃ ys, seqD e = some (ys.map Dv.str) ∧ (ys.map (·.length)).sum + ys.length * a.length ≤ 16777216 ∧ R n2 (.str (Txt.join a ys))) : ED c (tM1 (rJoin c.K) ta tb) n env R := fun B H σ r Q q =>
  h B H σ r _ fun v H1 n1 d r1 e1 h1 ⟨a, ed, k1⟩ => by
    subst ed
    cases h1
    refine ⟨⟨a, rfl⟩, k1 B H1 σ r1 _ fun u H2 n2 e r2 e2 h2 ⟨ys, es, l, k2⟩ => ?_⟩
    have fin := q _ H2 n2 _ r2 (e1.trans e2) (.str (Txt.join a ys)) k2
    cases h2 with
    | tup q1 d1 =>
      cases es
      cases dta_strs_back d1
      exact ⟨a, _, ys, rfl, rfl, .inr q1.sq, l, fin⟩
    | lst q1 d1 =>
      cases es
      cases dta_strs_back d1
      exact ⟨a, _, ys, rfl, rfl, .inl (QL.sq q1), l, fin⟩
    | _ => cases es
theorem ed_chain {r r' : R2} {R : Nat → Dv → Prop} (h : ED c ta n env fun n1 d1 => ED c tb n1 env fun n2 d2 => OD c r d1 d2 fun z => isBl (fun n2 b => if b = true then ED c tc n2 env fun n3 d3 => OD c r' d2 d3 (R n3) else R n2 (.bl false)) n2 z) : ED c (tChain r r' ta tb tc) n env R := fun B H σ rl Q q =>
  h B H σ rl _ fun v H1 n1 d1 r1 e1 h1 k1 => k1 B H1 σ r1 _ fun u H2 n2 d2 r2 e2 h2 k2 => k2 B H2 v u r2.live (r1.dt e2 h1) h2 _ fun z H3 d s3 h3 k3 => by
    cases d <;> try exact k3.elim
    rename_i b
    cases h3
    refine ⟨b, rfl, ?_⟩
    have ee := (e1.trans e2).trans (Ext0.same (wd := c.wd) s3)
    cases b with
    | true =>
      refine iteT ((show ED c tc n2 env _ from k3) B H3 σ (r2.same s3) _ fun w H4 n4 d4 r4 e4 h4 k4 => ?_)
      exact k4 B H4 u w r4.live ((r2.same s3).dt e4 (dt_same s3 h2)) h4 Q fun z H5 d s5 h5 k5 => q z H5 n4 d (r4.same s5) ((ee.trans e4).trans (Ext0.same s5)) h5 k5
    | false => exact iteF (q _ H3 n2 _ (r2.same s3) ee (.bl false) k3)
theorem tTest_ed {t : TE} {R : Nat → Bool → Prop} (h : ED c t n env fun n1 d => isBl R n1 d) : TD c (tTest t) n env R := td_tst h
end
end DL

set_option Elab.async false
set_option linter.all false
set_option maxRecDepth 100000
set_option maxHeartbeats 2000000
/-! D8: small words for walking trees. -/
namespace DL
open PySem PySem.Spec L2
section
variable {c : Cn} {R : Dv → Prop}
/-- the sign x stands in z -/
def hs (x z : Str) : Bool := decide (x.cps.toList.headD 0 ∈ z.cps.toList)
theorem one_sign {x : Str} (e : x.cps.toList.length = 1) : x = ⟨#[x.cps.toList.headD 0]⟩ := by
  obtain ⟨l⟩ := x
  obtain ⟨l⟩ := l
  match l, e with
  | [a], _ => rfl
theorem od_in1 {neg : Bool} {x z : Str} (e : x.cps.toList.length = 1) (k : R (.bl (if neg then !hs x z else hs x z))) : OD c (rInU c.K neg) (.str x) (.str z) R := by
  unfold hs at k
  have h := od_ins (c := c) (R := R) (neg := neg) (a := x.cps.toList.headD 0) (z := z) k
  rw [← one_sign e] at h
  exact h
/-- == of scalars, of trees -/
def rEqU (K : PySem.W.Frag) (neg : Bool) : R2 := fun x y H Q => (scal x y = true ∧ Q (.bl (if neg then !decide (x = y) else decide (x = y))) H) ∨ rEqT K neg x y H Q
theorem op_eqU {X : Cx} (hu : X.A.units + 64 < cLine) : OpR X (compareOp .Eq) (rEqU X.K false) := OpR.or op_eq (op_eqT hu)
theorem op_neU {X : Cx} (hu : X.A.units + 64 < cLine) : OpR X (compareOp .NotEq) (rEqU X.K true) := OpR.or op_ne (op_neT hu)
theorem dec_iff {p q : Prop} [Decidable p] [Decidable q] (h : p ↔ q) : decide p = decide q := by
  by_cases hp : p
  · rw [decide_eq_true hp, decide_eq_true (h.mp hp)]
  · rw [decide_eq_false hp, decide_eq_false fun z => hp (h.mpr z)]
theorem od_eqs {neg : Bool} {a b : Str} (k : R (.bl (if neg then !decide (a = b) else decide (a = b)))) : OD c (rEqU c.K neg) (.str a) (.str b) R := fun B H x y lv hx hy Q q => by
  cases hx; cases hy
  have e : decide (V.str a = V.str b) = decide (a = b) := dec_iff ⟨V.str.inj, congrArg _⟩
  exact .inl ⟨rfl, by rw [e]; exact q _ H _ (Same.refl _) (.bl _) k⟩
theorem od_eqi {neg : Bool} {a b : Int} (k : R (.bl (if neg then !decide (a = b) else decide (a = b)))) : OD c (rEqU c.K neg) (.int a) (.int b) R := fun B H x y lv hx hy Q q => by
  cases hx; cases hy
  have e : decide (V.int a = V.int b) = decide (a = b) := dec_iff ⟨V.int.inj, congrArg _⟩
  exact .inl ⟨rfl, by rw [e]; exact q _ H _ (Same.refl _) (.bl _) k⟩
theorem od_eqb {neg : Bool} {a b : Bool} (k : R (.bl (if neg then !decide (a = b) else decide (a = b)))) : OD c (rEqU c.K neg) (.bl a) (.bl b) R := fun B H x y lv hx hy Q q => by
  cases hx; cases hy
  have e : decide (V.bl a = V.bl b) = decide (a = b) := dec_iff ⟨V.bl.inj, congrArg _⟩
  exact .inl ⟨rfl, by rw [e]; exact q _ H _ (Same.refl _) (.bl _) k⟩
theorem od_eqT {neg : Bool} {d e : Dv} (p : plain d = true ∧ plain e = true ∧ SeqAt.shaped (py d) = true ∧ SeqAt.shaped (py e) = true) (k : R (.bl (if neg then !PyData.eqv (py d) (py e) else PyData.eqv (py d) (py e)))) : OD c (rEqU c.K neg) d e R := fun B H x y lv hx hy Q q =>
  .inr (od_eq p k B H x y lv hx hy Q q)
theorem od_is {x z : Str} (e : x.cps.toList.length = 1) (k : R (.bl (hs x z))) : OD c (rInU c.K false) (.str x) (.str z) R := od_in1 e k
theorem od_nis {x z : Str} (e : x.cps.toList.length = 1) (k : R (.bl (!hs x z))) : OD c (rInU c.K true) (.str x) (.str z) R := od_in1 e k
theorem oe_s {a b : Str} (k : R (.bl (decide (a = b)))) : OD c (rEqU c.K false) (.str a) (.str b) R := od_eqs k
theorem oe_i {a b : Int} (k : R (.bl (decide (a = b)))) : OD c (rEqU c.K false) (.int a) (.int b) R := od_eqi k
theorem oe_b {a b : Bool} (k : R (.bl (decide (a = b)))) : OD c (rEqU c.K false) (.bl a) (.bl b) R := od_eqb k
theorem on_s {a b : Str} (k : R (.bl (!decide (a = b)))) : OD c (rEqU c.K true) (.str a) (.str b) R := od_eqs k
theorem on_i {a b : Int} (k : R (.bl (!decide (a = b)))) : OD c (rEqU c.K true) (.int a) (.int b) R := od_eqi k
theorem on_b {a b : Bool} (k : R (.bl (!decide (a = b)))) : OD c (rEqU c.K true) (.bl a) (.bl b) R := od_eqb k
theorem oe_t {d e : Dv} (p : plain d = true ∧ plain e = true ∧ SeqAt.shaped (py d) = true ∧ SeqAt.shaped (py e) = true) (k : R (.bl (PyData.eqv (py d) (py e)))) : OD c (rEqU c.K false) d e R := od_eqT p k
theorem on_t {d e : Dv} (p : plain d = true ∧ plain e = true ∧ SeqAt.shaped (py d) = true ∧ SeqAt.shaped (py e) = true) (k : R (.bl (!PyData.eqv (py d) (py e)))) : OD c (rEqU c.K true) d e R := od_eqT p k
theorem oi_l {d : Dv} {ds : List Dv} (f : flatD d = true ∧ ds.all flatD = true) (k : R (.bl (ds.any fun e => eqD e d))) : OD c (rInU c.K false) d (.lst ds) R := od_inl f k
theorem oi_t {d : Dv} {ds : List Dv} (f : flatD d = true ∧ ds.all flatD = true) (k : R (.bl (ds.any fun e => eqD e d))) : OD c (rInU c.K false) d (.tup ds) R := od_int f k
theorem ni_l {d : Dv} {ds : List Dv} (f : flatD d = true ∧ ds.all flatD = true) (k : R (.bl (!ds.any fun e => eqD e d))) : OD c (rInU c.K true) d (.lst ds) R := od_inl f k
theorem ni_t {d : Dv} {ds : List Dv} (f : flatD d = true ∧ ds.all flatD = true) (k : R (.bl (!ds.any fun e => eqD e d))) : OD c (rInU c.K true) d (.tup ds) R := od_int f k
theorem isBl_mk {F : Nat → Bool → Prop} {n : Nat} {b : Bool} (h : F n b) : isBl F n (.bl b) := h
theorem sz_ok {n : Nat} {A : Prop} (h : n ≤ 100000) (k : A) : n ≤ sizeLine ∧ A := ⟨Nat.le_trans h (by decide), k⟩
theorem dite2 {b : Bool} {A B : Prop} (h1 : b = true → A) (h2 : b = false → B) : if b = true then A else B := by
  cases b with
  | true => exact iteT (h1 rfl)
  | false => exact iteF (h2 rfl)
end
end DL

set_option Elab.async false
set_option linter.all false
set_option maxRecDepth 100000
set_option maxHeartbeats 2000000
/-! D10: x[::-1] of lists, tuples, texts. -/
namespace PySem.DR
open PySem PySem.W PyProof.Rows PySem.Calls PySem.Spec L2 HT
section
variable {prog : Program} {w : World} {A : Around} {E : Value → Shared → Prop} {s : Shared}
theorem applied_rev {sl : Addr} {vs : Value} {n : Nat} {Q : Int × Int × Nat → Shared → Prop} (hs : s.heap.IsSliceOf sl .none .none vs) (ps : IsPart vs (some (-1))) (h : Q ((n : Int) - 1, -1, n) s) :
    wpAny (model prog w) A (Builtin.Slice.sliceApplied (.ref sl) (pure (n : Int))) Q E s := by
  obtain ⟨os, hos, hcs, hds⟩ := id hs
  unfold Builtin.Slice.sliceApplied Builtin.Slice.sliceFields
  refine wpAny_bind (wpAny_bind (wpAny_field hos hds (x := .none) rfl (wpAny_bind (wpAny_field hos hds (x := .none) rfl (wpAny_bind (wpAny_field hos hds (x := vs) rfl (wpAny_pure ?_)))))))
  refine wpAny_bind (slicePart_ ps ?_)
  show wpAny _ _ (if ((-1 : Int) == 0) = true then _ else _) _ _ s
  rw [if_neg (by decide)]
  refine wpAny_bind (slicePart_none (wpAny_bind (slicePart_none (wpAny_bind (wpAny_pure ?_)))))
  show wpAny _ _ (pure ((n : Int) - 1, (-1 : Int), Builtin.Slice.slicePlaces ((n : Int) - 1) (-1) (-1))) _ _ s
  have e : Builtin.Slice.slicePlaces ((n : Int) - 1) (-1) (-1) = n := by
    unfold Builtin.Slice.slicePlaces
    have h1 : ¬ ((-1 : Int) > 0) := by decide
    have h2 : (- -1 : Int) = 1 := by decide
    simp only [h1, if_false, h2, Int.ediv_one]
    split <;> omega
  rw [e]
  exact wpAny_pure h
theorem pick_rev (xs : Array Value) : ((List.range xs.size).filterMap fun (k : Nat) => xs[(((xs.size : Int) - 1) + (k : Int) * -1).toNat]?) = xs.toList.reverse := by
  have e : (List.range xs.size).filterMap (fun (k : Nat) => xs[(((xs.size : Int) - 1) + (k : Int) * -1).toNat]?) = ((List.range xs.size).map (fun k => xs.size - 1 - k)).filterMap (xs[·]?) := by
    rw [List.filterMap_map]
    have aux : ∀ l : List Nat, (∀ k ∈ l, k < xs.size) → l.filterMap (fun (k : Nat) => xs[(((xs.size : Int) - 1) + (k : Int) * -1).toNat]?) = l.filterMap ((fun x => xs[x]?) ∘ fun k => xs.size - 1 - k) := fun l => by
      induction l with
      | nil => intro _; rfl
      | cons k r ih =>
        intro hl
        have hk : (((xs.size : Int) - 1) + (k : Int) * -1).toNat = xs.size - 1 - k := by have := hl k (by simp); omega
        rw [List.filterMap_cons, List.filterMap_cons, hk, ih fun j hj => hl j (by simp [hj])]
        rfl
    exact aux _ fun k hk => List.mem_range.mp hk
  rw [e, krv_range, List.filterMap_reverse, krv_all]
theorem getItem_tuple_rev {t sl : Addr} {items : Array Value} {vs : Value} {Q : Value → Shared → Prop} (ht : IsTup s.heap t items) (hs : s.heap.IsSliceOf sl .none .none vs) (ps : IsPart vs (some (-1)))
    (h : Q (.ref s.heap.objs.size) { s with heap := s.heap.push { cls := .type "tuple", data := .seq items.toList.reverse.toArray } }) (hsz : items.size ≤ sizeLine) : wpAny (model prog w) A (getItem (.ref t) (.ref sl)) Q E s := by
  have hok : sizeOk (.seq items.toList.reverse.toArray) := by
    show items.toList.reverse.toArray.size ≤ sizeLine
    rw [List.size_toArray, List.length_reverse, Array.length_toList]
    exact hsz
  obtain ⟨os, hos, hcs, hds⟩ := id hs
  have hTs : s.TypeIs (.ref sl) "slice" := ⟨os, hos, hcs⟩
  unfold getItem
  try with_reducible refine wpAny_holding ?_
  first | refine wpAny_bind (wpAny_pure ?_) | skip
  refine wpAny_bind (wpAny_sequenceKey ht.typeIs (by decide) ?_)
  refine wpAny_bind (wpAny_callSpecial?_slot (name := Str.ofString "__getitem__") ht.typeIs PyProof.Rows.slot_tuple_getitem
    (wpAny_call_entry PyProof.Rows.slot_tuple_getitem ht.typeIs entry_tuple_getitem ?_ (args_tuple_getitem _ _)))
  show wpAny _ _ (Builtin.Tuple.tupleItemsOf (.ref t) >>= _) _ _ s
  refine wpAny_bind (tupleItemsOf_ ht ?_)
  refine wpAny_bind (wpAny_typeOf hTs ?_)
  rw [if_pos (by decide)]
  refine wpAny_bind (applied_rev hs ps ?_)
  show wpAny _ _ (if (((items.size : Int) - 1) == 0 && (-1 : Int) == 1 && items.size == items.size) = true then _ else _) _ _ s
  rw [if_neg (by simp), pick_rev]
  exact wpAny_bind (m := Builtin.Tuple.tupleExact _) (wpAny_newObj_type (wpAny_pure ⟨_, rfl, wpAny_pure h⟩) hok)
end
end PySem.DR
namespace DL
open PySem PySem.Spec PyProof.Rows L2
section
variable {X : Cx}
/-- a text from behind -/
def revS (z : Str) : Str := ⟨z.cps.toList.reverse.toArray⟩
theorem revS_length (z : Str) : (revS z).length = z.length := by
  show z.cps.toList.reverse.toArray.size = z.cps.size
  rw [List.size_toArray, List.length_reverse, Array.length_toList]
def tRevA (K : PySem.W.Frag) (te : TE) : TE := fun σ H Q => te σ H fun x H1 =>
  (∃ a xs, x = .ref a ∧ SqL K H1 a xs ∧ ∀ p, H1 p = none → Q (.ref p) (upd H1 p (.lst xs.reverse))) ∨ (∃ a xs, x = .ref a ∧ SqT K H1 a xs ∧ ∀ p, H1 p = none → Q (.ref p) (upd H1 p (.tup xs.reverse))) ∨
  ∃ z, x = .str z ∧ z.length ≤ sizeLine ∧ Q (.str (revS z)) H1
theorem picked_rev (x : Str) (u : Tok) : ((slicePicked x none none (some (-1, u))).filterMap (x.cps[·]?)).toArray = x.cps.toList.reverse.toArray := by
  have e : slicePicked x none none (some (-1, u)) = sliceRange ((x.cps.size : Int) - 1) (-1) (-1) := rfl
  rw [e, PySem.W.krv_sliceRange, PySem.W.krv_range, List.filterMap_reverse, PySem.W.krv_all]
theorem pe_revA {e : Expr} {te : TE} {k : Nat} {p1 p2 p3 pos : Pos} (he : PE X e te) : PE X (.Subscript e (.Slice none none (some (.UnaryOp .USub (.Constant (.int 1) k p1) p2)) p3) pos) (tRevA X.K te) := by
  refine ⟨fun pins s σ H Q I h => ?_⟩
  refine Subscript_ (thn (he.run pins s σ H _ I h) fun v s1 ⟨x, H1, I1, r1, q1⟩ => ?_)
  have hst : PO X (some (.UnaryOp .USub (.Constant (.int 1) k p1) p2)) (tPart (tUn (rU fun i => .int (-i)) (tC (.int 1)))) := po_some (pe_un un_neg pe_int)
  refine wpAny_Slice (thn (po_none.run pins s1 σ H1 (fun o H2 => o = none ∧ H2 = H1) I1 ⟨rfl, rfl⟩) fun vl s2 ⟨l, H2, I2, pl, el, e2⟩ => ?_)
  subst el e2
  refine thn (po_none.run pins s2 σ H2 (fun o H3 => o = none ∧ H3 = H2) I2 ⟨rfl, rfl⟩) fun vu s3 ⟨u, H3, I3, pu, eu, e3⟩ => ?_
  subst eu e3
  refine thn (hst.run pins s3 σ H3 (fun o H4 => o = some (-1) ∧ H4 = H3) I3 ⟨1, rfl, -1, rfl, rfl, rfl⟩) fun vs s4 ⟨o, H4, I4, ps, eo, e4⟩ => ?_
  subst eo e4
  cases pl
  cases pu
  have I5 : Inv X pins σ H4 { s4 with heap := s4.heap.push { cls := .type "slice", data := .fields #[.none, .none, vs] } } := I4.kept (t' := s4.toks) fun b ob q => Heap.get?_push_of_some _ q
  show wpAny (model X.prog X.w) X.A (subscriptTail e (.Slice none none (some (.UnaryOp .USub (.Constant (.int 1) k p1) p2)) p3) v (.ref s4.heap.objs.size)) (EP X pins σ Q) X.xe { s4 with heap := s4.heap.push { cls := .type "slice", data := .fields #[.none, .none, vs] } }
  rcases q1 with ⟨a, xs, ex, hx, q⟩ | ⟨a, xs, ex, hx, q⟩ | ⟨z, ex, hz, q⟩
  · subst ex
    cases r1
    obtain ⟨its, r, ht, hz⟩ := I5.list hx
    have hlen := r.length
    refine tail_any (ops := [.ref a, .ref s4.heap.objs.size]) ht.isList.typeIs (PySem.slot_list_getitem.lookup) ?_ (by with_unfolding_all rfl)
    refine wpAny_getItem_list_slice ht.isList (Heap.IsSliceOf.new _ .none .none vs) .none .none ps (by decide) ?_ (by rw [List.size_toArray]; omega)
    rw [PySem.W.krv_pick]
    refine ⟨.ref _, _, I5.laid (t' := s4.toks) (o := .lst xs.reverse) (fun b ob q => Heap.get?_push_of_some _ q) (Nat.le_refl _) ?_, rfl, q _ (I5.hok.fresh (Nat.le_refl _))⟩
    exact ⟨by rw [List.length_reverse]; exact hz, _, 0, r.reverse, Heap.get?_push_size _ rfl⟩
  · subst ex
    cases r1
    obtain ⟨its, r, ht, hz⟩ := I5.tuple hx
    have hlen := r.length
    refine tail_any (ops := [.ref a, .ref s4.heap.objs.size]) ht.typeIs (PyProof.Rows.slot_tuple_getitem.lookup) ?_ (by with_unfolding_all rfl)
    refine PySem.DR.getItem_tuple_rev ht (Heap.IsSliceOf.new _ .none .none vs) ps ?_ (by rw [List.size_toArray]; omega)
    refine ⟨.ref _, _, I5.laid (t' := s4.toks) (o := .tup xs.reverse) (fun b ob q => Heap.get?_push_of_some _ q) (Nat.le_refl _) ?_, rfl, q _ (I5.hok.fresh (Nat.le_refl _))⟩
    exact ⟨by rw [List.length_reverse]; exact hz, its.reverse, r.reverse, ⟨_, Heap.get?_push_size _ rfl, rfl, _, rfl⟩⟩
  · subst ex
    obtain ⟨t, rfl⟩ := r1
    cases ps with
    | int i u =>
      refine tail_any (ops := [.str z t, .ref s4.heap.objs.size]) (typeIs_str _ z t) (F.slot_str_getitem.lookup) ?_ (by with_unfolding_all rfl)
      refine wpAny_getItem_str_slice (l := none) (u := none) (st := some (-1, u)) ⟨_, Heap.get?_push_size _ rfl, rfl, rfl⟩ rfl ?_
      have e : sliceMade z t none none (some (-1, u)) = .str (revS z) := by
        unfold sliceMade
        rw [if_neg (by simp), picked_rev]
        rfl
      rw [e]
      exact ⟨by rw [revS_length]; exact hz, .str (revS z), H4, I5.tok _, ⟨_, rfl⟩, q⟩
end
section
variable {c : Cn} {n : Nat} {env : DL.Env} {te : TE} {R : Nat → Dv → Prop}
def revD (d : Dv) (R : Dv → Prop) : Prop := match d with
  | .lst ds => R (.lst ds.reverse)
  | .tup ds => R (.tup ds.reverse)
  | .str z => z.length ≤ sizeLine ∧ R (.str (revS z))
  | _ => False
theorem ed_revA (h : ED c te n env fun n1 d => revD d (R n1)) : ED c (tRevA c.K te) n env R := fun B H σ r Q q =>
  h B H σ r _ fun v H1 n1 d r1 e1 h1 k => by
    cases h1 with
    | lst q1 d1 => exact .inl ⟨_, _, rfl, QL.sq q1, fun p hp => q _ _ n1 _ (r1.same (same_new hp _)) (e1.trans (Ext0.same (same_new hp _))) (.lst (ql_new r1.live hp) (dta_same (same_new hp _) (dta_rev d1))) k⟩
    | tup q1 d1 => exact .inr (.inl ⟨_, _, rfl, q1.sq, fun p hp => q _ _ n1 _ (r1.same (same_new hp _)) (e1.trans (Ext0.same (same_new hp _))) (.tup (qt_new r1.live hp) (dta_same (same_new hp _) (dta_rev d1))) k⟩)
    | str z => exact .inr (.inr ⟨z, rfl, k.1, q _ H1 n1 _ r1 e1 (.str _) k.2⟩)
    | _ => exact k.elim
end
end DL

set_option Elab.async false
set_option linter.all false
set_option maxRecDepth 100000
set_option maxHeartbeats 2000000
/-! D11: t == (), whatever is in t. -/
namespace DL
open PySem PySem.Spec PyProof.Rows L2
section
variable {X : Cx}
def rEqE (K : PySem.W.Frag) : R2 := fun x y H Q => ∃ a b xs, x = .ref a ∧ y = .ref b ∧ SqT K H a xs ∧ SqT K H b [] ∧ Q (.bl xs.isEmpty) H
theorem op_eqE (hu : X.A.units + 64 < cLine) : OpR X (compareOp .Eq) (rEqE X.K) := by
  intro pins s σ H x y v u Q I rx ry h
  obtain ⟨a, b, xs, rfl, rfl, h1, h2, q⟩ := h
  cases rx
  cases ry
  obtain ⟨its, r1, t1, _⟩ := I.tuple h1
  obtain ⟨its2, r2, t2, _⟩ := I.tuple h2
  cases r2
  refine SeqAt.eq_tupleAt (e := fun _ => true) t1 t2 (by omega) (fun j h1 h2 => by simp at h2) ?_
  refine ⟨.bl xs.isEmpty, H, I, ?_, q⟩
  show Value.bool _ = Value.bool _
  have e : xs.length = its.length := r1.length
  cases its with
  | nil => cases r1; rfl
  | cons z zs => cases r1; rfl
def rEqV (K : PySem.W.Frag) (neg : Bool) : R2 := fun x y H Q => rEqU K neg x y H Q ∨ (neg = false ∧ rEqE K x y H Q)
theorem op_eqV (hu : X.A.units + 64 < cLine) : OpR X (compareOp .Eq) (rEqV X.K false) := by
  intro pins s σ H x y v u Q I rx ry h
  rcases h with h | ⟨_, h⟩
  · exact op_eqU hu pins s σ H x y v u Q I rx ry h
  · exact op_eqE hu pins s σ H x y v u Q I rx ry h
theorem op_neV (hu : X.A.units + 64 < cLine) : OpR X (compareOp .NotEq) (rEqV X.K true) := by
  intro pins s σ H x y v u Q I rx ry h
  rcases h with h | ⟨e, _⟩
  · exact op_neU hu pins s σ H x y v u Q I rx ry h
  · cases e
end
section
variable {c : Cn} {R : Dv → Prop}
theorem oV {neg : Bool} {d e : Dv} (h : OD c (rEqU c.K neg) d e R) : OD c (rEqV c.K neg) d e R := fun B H x y lv hx hy Q q => .inl (h B H x y lv hx hy Q q)
theorem ov_s {a b : Str} (k : R (.bl (decide (a = b)))) : OD c (rEqV c.K false) (.str a) (.str b) R := oV (oe_s k)
theorem ov_i {a b : Int} (k : R (.bl (decide (a = b)))) : OD c (rEqV c.K false) (.int a) (.int b) R := oV (oe_i k)
theorem ov_b {a b : Bool} (k : R (.bl (decide (a = b)))) : OD c (rEqV c.K false) (.bl a) (.bl b) R := oV (oe_b k)
theorem nv_s {a b : Str} (k : R (.bl (!decide (a = b)))) : OD c (rEqV c.K true) (.str a) (.str b) R := oV (on_s k)
theorem nv_i {a b : Int} (k : R (.bl (!decide (a = b)))) : OD c (rEqV c.K true) (.int a) (.int b) R := oV (on_i k)
theorem nv_b {a b : Bool} (k : R (.bl (!decide (a = b)))) : OD c (rEqV c.K true) (.bl a) (.bl b) R := oV (on_b k)
theorem ov_t {d e : Dv} (p : plain d = true ∧ plain e = true ∧ SeqAt.shaped (py d) = true ∧ SeqAt.shaped (py e) = true) (k : R (.bl (PyData.eqv (py d) (py e)))) : OD c (rEqV c.K false) d e R := oV (oe_t p k)
theorem nv_t {d e : Dv} (p : plain d = true ∧ plain e = true ∧ SeqAt.shaped (py d) = true ∧ SeqAt.shaped (py e) = true) (k : R (.bl (!PyData.eqv (py d) (py e)))) : OD c (rEqV c.K true) d e R := oV (on_t p k)
theorem ov_e {ds : List Dv} (k : R (.bl ds.isEmpty)) : OD c (rEqV c.K false) (.tup ds) (.tup []) R := fun B H x y lv hx hy Q q => by
  cases hx with
  | tup q1 d1 =>
    cases hy with
    | tup q2 d2 =>
      cases d2
      exact .inr ⟨rfl, _, _, _, rfl, rfl, q1.sq, q2.sq, q _ H _ (Same.refl _) (.bl _) (by rw [d1.empty]; exact k)⟩
end
end DL

set_option Elab.async false
set_option linter.all false
set_option maxRecDepth 100000
set_option maxHeartbeats 2000000
/-! D12: sets of texts, and their sorted lists. -/
namespace DL
open PySem L2 PySem.Spec PyProof.Rows

def vstr : Value → Str
  | .str x _ => x
  | _ => Str.empty
def GoodX (w : World) (e : Int × Value) : Prop := ∃ x tk, e.2 = Value.str x tk ∧ e.1 = hashStr w x
def keyX (e : Int × Value) : Str := vstr e.2
/-- the set of texts at a: its members l, each once -/
def SetX (w : World) (h : Heap) (a : Addr) (l : List Str) : Prop :=
  ∃ o es ep t, h.get? a = some o ∧ o.ExactSet ∧ o.data = .set es ep t ∧ (∀ e ∈ es.toList, GoodX w e) ∧ (es.toList.map keyX).Perm l ∧ l.Nodup ∧
    es.size < scanBound ∧ t.fits es.size = true ∧ Ris t.place.toList ∧ (w.params.followText "set-order" = true ∨ t.led = true)
section
variable {P : Program} {w : World} {h h' : Heap} {a : Addr} {l : List Str}
theorem SetX.at (R : SetX w h a l) (k : ∀ o, h.get? a = some o → h'.get? a = some o) : SetX w h' a l := by
  obtain ⟨o, es, ep, t, ho, r⟩ := R
  exact ⟨o, es, ep, t, k o ho, r⟩
theorem SetX.perm {l' : List Str} (R : SetX w h a l) (p : l.Perm l') : SetX w h a l' := by
  obtain ⟨o, es, ep, t, ho, h1, h2, h3, h4, h5, r⟩ := R
  exact ⟨o, es, ep, t, ho, h1, h2, h3, h4.trans p, p.nodup_iff.mp h5, r⟩
theorem goodx_elems {l : List (Int × Value)} (g : ∀ e ∈ l, GoodX w e) : ElemsOf (strKind P w) l := fun e he => by
  obtain ⟨k, tk, h1, h2⟩ := g e he
  exact ⟨⟨k, by rw [h1]; exact strKind_is P w k tk, h2⟩, by rw [h1] <;> rfl⟩
theorem goodx_is {e : Int × Value} (g : GoodX w e) (k : Str) : (strKind P w).is k e.2 = true ↔ keyX e = k := by
  obtain ⟨k0, tk, h1, _⟩ := g
  unfold keyX
  rw [h1]
  constructor
  · intro z
    exact (strKind P w).inj (.str k0 tk) _ _ (strKind_is P w k0 tk) z
  · intro z
    have z : k0 = k := z
    rw [← z]
    exact strKind_is P w k0 tk
theorem goodx_mem {l : List (Int × Value)} (g : ∀ e ∈ l, GoodX w e) (k : Str) : k ∈ l.map keyX ↔ ∃ e ∈ l, (strKind P w).is k e.2 = true := by
  rw [List.mem_map]
  constructor
  · rintro ⟨e, he, q⟩
    exact ⟨e, he, (goodx_is (g e he) k).2 q⟩
  · rintro ⟨e, he, q⟩
    exact ⟨e, he, (goodx_is (g e he) k).1 q⟩
end
section
variable {P : Program} {w : World} {A : Around} {E : Value → Shared → Prop} {s : Shared} {a : Addr} {l : List Str}
theorem setx_tail {g : Bool → Sem Unit} (hg : ∀ (b : Bool) (s₁ : Shared) (Q' : Unit → Shared → Prop), Q' () s₁ → wpAny (model P w) A (g b) Q' E s₁)
    {o : Obj} {es : Array (Int × Value)} {ep : Nat} {t : SetTable} (ho : s.heap.get? a = some o) (hex : o.ExactSet) (hd : o.data = .set es ep t)
    {es1 : Array (Int × Value)} {t2 : SetTable} {l' : List Str} (g1 : ∀ e ∈ es1.toList, GoodX w e) (p1 : (es1.toList.map keyX).Perm l') (nd1 : l'.Nodup)
    (hb1 : es1.size < scanBound) (hf2 : t2.fits es1.size = true) (hr : Ris t2.place.toList) (hl : w.params.followText "set-order" = true ∨ t2.led = true) {wasDummy : Bool} {R : Option Bool → Shared → Prop}
    (hR : ∀ h', Heap.SameBut a s.heap h' → SetX w h' a l' → R (some true) { s with heap := h' }) :
    wpAny (model P w) A (do
        storeSet a es1 t2
        if (!wasDummy && t2.tooFull) = true then do
            g (relayAll t2 es1 (SetTable.grown es1.size)).2.2
            storeSet a (relayAll t2 es1 (SetTable.grown es1.size)).1 (relayAll t2 es1 (SetTable.grown es1.size)).2.1
            pure (some true)
          else pure (some true)) R E s := by
  refine wpAny_bind (wpAny_storeSet_of ho hd ?_ (fits_of_scanBound hb1))
  have ho1 := store_at (es' := es1) (t' := t2) ho hd
  have sb1 := Heap.SameBut.update s.heap a (Obj.putSet es1 t2)
  split
  · have pm := relayAll_perm t2 es1 (SetTable.grown es1.size)
    have hf3 := relayAll_fits t2 es1 (SetTable.grown es1.size)
    have hr3 := relayAll_ris t2 es1 (SetTable.grown es1.size)
    have hl3 := relayAll_led t2 es1 (SetTable.grown es1.size)
    generalize relayAll t2 es1 (SetTable.grown es1.size) = Z at pm hf3 hr3 hl3 ⊢
    obtain ⟨es2, t3, gave⟩ := Z
    dsimp only at pm hf3 hr3 hl3 ⊢
    have hsz : es2.size = es1.size := by rw [← Array.length_toList, pm.length_eq, Array.length_toList]
    have hb2 : es2.size < scanBound := by rw [hsz]; exact hb1
    refine wpAny_bind (hg _ _ _ ?_)
    refine wpAny_bind (wpAny_storeSet_of ho1 rfl ?_ (fits_of_scanBound hb2))
    have ho2 := store_at (es' := es2) (t' := t3) ho1 rfl
    refine wpAny_pure (hR _ (sb1.trans (Heap.SameBut.update _ a _)) ?_)
    exact ⟨_, es2, _, t3, ho2, hex, rfl, fun e he => g1 e (pm.mem_iff.mp he), (pm.map keyX).trans p1, nd1, hb2, hf3, hr3, hl.imp id fun z => by rw [hl3]; exact z⟩
  · exact wpAny_pure (hR _ sb1 ⟨_, es1, _, t2, ho1, hex, rfl, g1, p1, nd1, hb1, hf2, hr, hl⟩)

theorem setx_size {h : Heap} (R : SetX w h a l) : ∃ o es ep t, h.get? a = some o ∧ o.ExactSet ∧ o.data = .set es ep t ∧ es.size = l.length := by
  obtain ⟨o, es, ep, t, ho, hx, hd, g, p, r⟩ := R
  refine ⟨o, es, ep, t, ho, hx, hd, ?_⟩
  have q := p.length_eq
  rwa [List.length_map, Array.length_toList] at q

theorem setx_add {k : Str} {tk : Tok} {Q : Bool → Shared → Prop} (R : SetX w s.heap a l) (room : l.length + 1 < scanBound)
    (hQ : ∀ h', Heap.SameBut a s.heap h' → SetX w h' a (if k ∈ l then l else k :: l) → Q (!decide (k ∈ l)) { s with heap := h' }) :
    wpAny (model P w) A (setAddHashed a (.str k tk) ((strKind P w).hash k)) Q E s := by
  obtain ⟨o, es, ep, t, ho, hex, hd, g, pl, nd, hb, hf, hr, hl⟩ := R
  have hn : es.size = l.length := by
    have q := pl.length_eq
    rwa [List.length_map, Array.length_toList] at q
  have hkey : (strKind P w).is k (.str k tk) = true := strKind_is P w k tk
  have hsc : (Value.str k tk).scannable = true := rfl
  have hel : ElemsOf (strKind P w) es.toList := goodx_elems g
  unfold setAddHashed setAddHashedIn
  refine wpAny_holding (wpAny_bind (wpAny_setState_of ho hd hf ?_))
  dsimp only
  rw [byScan_of hsc hb hel]
  simp only [↓reduceIte]
  unfold setAddByScan
  refine wpAny_bind ?_
  refine wpAny_bind (wpAny_rule ?_)
  refine wpAny_bind (wpAny_setScan_of hkey ho hd hf hel ?_)
  cases hfi : List.findIdx? (fun e => (strKind P w).is k e.2) es.toList with
  | some j =>
    dsimp only
    obtain ⟨hj, pj, _⟩ := List.findIdx?_eq_some_iff_getElem.mp hfi
    have hSk : k ∈ l := pl.mem_iff.mp ((goodx_mem (P := P) (w := w) g k).2 ⟨es.toList[j], List.getElem_mem hj, pj⟩)
    refine wpAny_pure (wpAny_pure ?_)
    have q := hQ s.heap (Heap.SameBut.refl a s.heap)
    rw [if_pos hSk, decide_eq_true hSk] at q
    exact q ⟨o, es, ep, t, ho, hex, hd, g, pl, nd, hb, hf, hr, hl⟩
  | none =>
    dsimp only
    have hnk : k ∉ l := fun z => by
      obtain ⟨e, he, q⟩ := (goodx_mem (P := P) (w := w) g k).1 (pl.mem_iff.mpr z)
      have c := List.findIdx?_eq_none_iff.mp hfi e he
      rw [q] at c
      cases c
    have hgw : ∀ (b : Bool) {s₁ : Shared} {Q' : Unit → Shared → Prop}, Q' () s₁ → wpAny (model P w) A (match b with | true => rule "set.scan.the-table-gave-way" | false => pure ()) Q' E s₁ :=
      fun b s₁ Q' q => by cases b <;> first | exact wpAny_pure q | exact wpAny_rule q
    have pm := layNew_perm t es ((strKind P w).hash k) (.str k tk)
    have hf1 := layNew_fits t es ((strKind P w).hash k) (.str k tk)
    have hr1 := layNew_ris t es ((strKind P w).hash k) (.str k tk) hr
    have hl1 := layNew_led t es ((strKind P w).hash k) (.str k tk)
    generalize layNew t es ((strKind P w).hash k) (.str k tk) = Z at pm hf1 hr1 hl1 ⊢
    obtain ⟨es1, t1, wasDummy, gave⟩ := Z
    dsimp only at pm hf1 hr1 hl1 ⊢
    rw [Array.toList_push] at pm
    have pc : es1.toList.Perm (((strKind P w).hash k, Value.str k tk) :: es.toList) := pm.trans (List.perm_append_singleton _ _)
    have pk : (es1.toList.map keyX).Perm (k :: l) := (pc.map keyX).trans (List.Perm.cons _ pl)
    have g1 : ∀ e ∈ es1.toList, GoodX w e := fun e he => by
      rcases List.mem_cons.mp (pc.mem_iff.mp he) with z | z
      · rw [z]; exact ⟨k, tk, rfl, rfl⟩
      · exact g e z
    have nd1 : (k :: l).Nodup := List.nodup_cons.mpr ⟨hnk, nd⟩
    have hsz : es1.size = l.length + 1 := by rw [← Array.length_toList, pc.length_eq, List.length_cons, Array.length_toList, hn]
    have hb1 : es1.size < scanBound := by rw [hsz]; exact room
    have hled : w.params.followText "set-order" = true ∨ t1.led = true := hl.imp id fun z => by rw [hl1]; exact z
    have fin : ∀ h', Heap.SameBut a s.heap h' → SetX w h' a (k :: l) → Q true { s with heap := h' } := fun h' sb r => by
      have q := hQ h' sb
      rw [if_neg hnk, decide_eq_false hnk] at q
      exact q r
    refine wpAny_bind (hgw _ ?_)
    split
    · refine wpAny_bind ?_
      rw [hashByValue_scannable 8 hsc]
      refine wpAny_pure ?_
      refine setx_tail ?_ ho hex hd g1 pk nd1 hb1 ?_ ?_ ?_ ?_
      · intro b s₁ Q' q; cases b <;> first | exact wpAny_pure q | exact wpAny_rule q
      · first | (split <;> first | exact hf1 | exact SetTable.fits_plain_off hf1) | exact hf1
      · first | (split <;> exact hr1) | exact hr1
      · first | (split <;> exact hled) | exact hled
      · intro h' sb r; dsimp only; exact wpAny_pure (fin h' sb r)
    · refine wpAny_bind (wpAny_pure ?_)
      simp only [↓reduceIte]
      refine setx_tail ?_ ho hex hd g1 pk nd1 hb1 hf1 hr1 hled ?_
      · intro b s₁ Q' q; cases b <;> first | exact wpAny_pure q | exact wpAny_rule q
      · intro h' sb r; dsimp only; exact wpAny_pure (fin h' sb r)
theorem setx_fresh {h : Heap} (ho : h.get? a = some { cls := .type "set", dict := none, data := .set #[] 0 (.fresh 0 0 (!w.params.followText "set-order")) }) : SetX w h a [] :=
  ⟨_, #[], 0, _, ho, ⟨rfl, rfl, rfl⟩, rfl, (fun e he => by simp at he), List.Perm.nil, List.Pairwise.nil, (by decide), (by rfl), List.Pairwise.nil, by
    show _ ∨ (!w.params.followText "set-order") = true
    cases w.params.followText "set-order"
    · exact .inr rfl
    · exact .inl rfl⟩

/-- the members met so far, each once -/
def met : List Str → List Str → List Str
  | l, [] => l
  | l, x :: xs => met (if x ∈ l then l else x :: l) xs
theorem met_mem : ∀ (xs l : List Str) (k : Str), k ∈ met l xs ↔ k ∈ l ∨ k ∈ xs
  | [], l, k => by simp [met]
  | x :: xs, l, k => by
    rw [met, met_mem]
    by_cases h : x ∈ l
    · rw [if_pos h]
      constructor
      · rintro (z | z)
        · exact .inl z
        · exact .inr (List.mem_cons_of_mem _ z)
      · rintro (z | z)
        · exact .inl z
        · rcases List.mem_cons.mp z with z | z
          · exact .inl (z ▸ h)
          · exact .inr z
    · rw [if_neg h]
      simp only [List.mem_cons]
      constructor
      · rintro ((z | z) | z)
        · exact .inr (.inl z)
        · exact .inl z
        · exact .inr (.inr z)
      · rintro (z | z | z)
        · exact .inl (.inr z)
        · exact .inl (.inl z)
        · exact .inr z
theorem met_len : ∀ (xs l : List Str), (met l xs).length ≤ l.length + xs.length
  | [], l => Nat.le_refl _
  | x :: xs, l => by
    rw [met]
    have := met_len xs (if x ∈ l then l else x :: l)
    have : (if x ∈ l then l else x :: l).length ≤ l.length + 1 := by split <;> simp
    simp only [List.length_cons]
    omega
theorem met_nodup : ∀ (xs l : List Str), l.Nodup → (met l xs).Nodup
  | [], l, h => h
  | x :: xs, l, h => by
    rw [met]
    refine met_nodup xs _ ?_
    by_cases q : x ∈ l
    · rw [if_pos q]; exact h
    · rw [if_neg q]; exact List.nodup_cons.mpr ⟨q, h⟩
end

section
variable {P : Program} {w : World} {A : Around} {E : Value → Shared → Prop}
theorem setx_update {I : Addr} {fp wr : List Addr} {G : Array GenState → Array GenState → Prop} {n : Nat} {Pv : Nat → Value → Prop} {St : Nat → Shared → Prop} {R : Result → Shared → Prop}
    (W : WalksS P w A.in1 I fp wr G n Pv St) (S : Addr) (hSf : S ∉ fp) (xs : List Str) (hn : n = xs.length) (hval : ∀ i v, Pv i v → ∃ k t, xs[i]? = some k ∧ v = .str k t) :
    ∀ (k i : Nat) (s : Shared) (l : List Str), n - i = k → i ≤ n → St i s → SetX w s.heap S l → l.length + k + 1 < scanBound →
      (∀ s', Moved (S :: wr) G s s' → SetX w s'.heap S (met l (xs.drop i)) → R (.ok (.ret .none)) s') →
      codeAny (model P w) A (.builtin "set.update.loop" ⟨[.ref S, .ref I], []⟩) R s := by
  have hSw : S ∉ wr := fun h => hSf (W.sub _ h)
  have hsub : ∀ b ∈ wr, b ∈ S :: wr := fun b hb => List.mem_cons_of_mem _ hb
  intro k
  induction k with
  | zero =>
    intro i s l hk' hi hst hS hb hR
    have hin : i = n := by omega
    subst hin
    refine codeAny_builtin F.entry_set_update_loop ?_
    rw [Around.under_plainId F.plain_set_update_loop _]
    show wpAny _ A.in1 (pyNext (.ref I) >>= _) _ _ s
    refine wpAny_bind (W.done s _ _ hst fun s' hm => ?_)
    show wpAny _ A.in1 (ret Value.none) _ _ s'
    have e : xs.drop i = [] := List.drop_of_length_le (by omega)
    rw [e] at hR
    exact wpAny_pure (hR s' (hm.mono hsub) (hS.at fun o e => hm.heap S o hSw e))
  | succ k ih =>
    intro i s l hk' hi hst hS hb hR
    have hlt : i < n := by omega
    refine codeAny_builtin F.entry_set_update_loop ?_
    rw [Around.under_plainId F.plain_set_update_loop _]
    show wpAny _ A.in1 (pyNext (.ref I) >>= _) _ _ s
    refine wpAny_bind (W.item i s _ _ hlt hst fun v s' hP hst' hm => ?_)
    obtain ⟨z, t, hz, rfl⟩ := hval i v hP
    have hS' : SetX w s'.heap S l := hS.at fun o e => hm.heap S o hSw e
    show wpAny _ A.in1 (holding [Value.str z t] (setAdd S (.str z t)) >>= _) _ _ s'
    refine wpAny_bind (wpAny_holding ?_)
    unfold setAdd
    refine wpAny_holding ?_
    refine wpAny_bind ((strKind P w).pyHash (k := z) (strKind_is _ _ _ _) ?_)
    refine setx_add (s := { s' with toks := s'.toks + 1 }) hS' (by omega) fun h' hsb hS2 => ?_
    have hd : xs.drop i = z :: xs.drop (i + 1) := by
      obtain ⟨h1, h2⟩ := List.getElem?_eq_some_iff.mp hz
      rw [List.drop_eq_getElem_cons h1, h2]
    rw [hd] at hR
    have hlen : (if z ∈ l then l else z :: l).length ≤ l.length + 1 := by split <;> simp
    refine wpAny_pure ⟨plainId_quiet F.plain_set_update_loop _, ih (i + 1) _ _ (by omega) hlt (W.frame _ s' _ _ hst' (Nat.le_succ _) fun b hb o e => ?_) hS2 (by omega) fun s'' hm'' hS'' => ?_⟩
    · rw [hsb.2 b (fun h : b = S => hSf (by rw [← h]; exact hb))]; exact e
    · refine hR s'' (Moved.trans W.gtrans ((hm.mono hsub).then_heap (Nat.le_succ _) fun b o hb e => ?_) hm'') hS''
      rw [hsb.2 b (fun h : b = S => hb (by rw [h]; exact List.mem_cons_self))]; exact e
end
end DL

set_option Elab.async false
set_option linter.all false
set_option maxRecDepth 100000
set_option maxHeartbeats 3200000
/-! D13: set(text), sorted(set(text)). -/
namespace DL
open PySem L2 PySem.Spec PyProof.Rows
/-- the signs of a text, each a text -/
def sgs (x : Str) : List Str := x.cps.toList.map fun c => ⟨#[c]⟩
theorem sgs_at {x : Str} {i : Nat} {v : Value} (h : SignAt x i v) : ∃ k t, (sgs x)[i]? = some k ∧ v = .str k t := by
  obtain ⟨c, u, hc, rfl⟩ := h
  refine ⟨⟨#[c]⟩, u, ?_, rfl⟩
  unfold sgs
  rw [List.getElem?_map, Array.getElem?_toList, hc] <;> rfl
section
variable {P : Program} {w : World} {A : Around} {E : Value → Shared → Prop} {s : Shared}
theorem call_set_txt {x : Str} {u : Tok} {Q : Value → Shared → Prop} (hh : A.handled = none) (hb : x.cps.size + 1 < scanBound)
    (h : ∀ (h' : Heap) (tk : Nat), SetX w h' s.heap.objs.size (met [] (sgs x)) → (∀ b o, s.heap.get? b = some o → h'.get? b = some o) → Q (.ref s.heap.objs.size) { s with heap := h', toks := tk }) :
    wpAny (model P w) A (call (.type "set") [.str x u]) Q E s := by
  obtain ⟨c, tl, hmro⟩ := F.called_set.mro
  have hmade := F.called_set.made
  have hsub := F.called_set.sub
  refine wpAny_call (codeAny_of_tree ?_)
  show wpAny _ _ (callAny (.type "set") _) _ _ _
  refine wpAny_pure ⟨Code.quiet_builtin _ (by decide +kernel), codeAny_builtin F.entry_type_call ?_⟩
  rw [Around.under_plain (weight_type_call_type "set" [.str x u] []) rfl]
  have h1 := F.called_set.notType
  have h2 := F.called_set.canCreate
  have hct := F.typeCall_set_1 (.str x u)
  repeat (any_goals (first | assumption | wp_step))

  refine codeAny_mono (code_set_led1 (.str x u) (E := E) (Q₁ := fun obj s₁ => obj = .ref s.heap.objs.size ∧ s₁ = { s with heap := s.heap.push { cls := .type "set", dict := none, data := .set #[] 0 (.fresh 0 0 (!w.params.followText "set-order")) } }) ⟨rfl, rfl⟩) fun r s₁ hr => ?_
  cases r with
  | error e => exact hr
  | ok fl =>
    cases fl with
    | ret obj =>
      obtain ⟨rfl, rfl⟩ := hr
      have hS : (s.heap.push { cls := .type "set", dict := none, data := .set #[] 0 (.fresh 0 0 (!w.params.followText "set-order")) }).get? s.heap.objs.size = some { cls := .type "set", dict := none, data := .set #[] 0 (.fresh 0 0 (!w.params.followText "set-order")) } := Heap.get?_push_size _ rfl
      have hT : Shared.TypeIs { s with heap := s.heap.push { cls := .type "set", dict := none, data := .set #[] 0 (.fresh 0 0 (!w.params.followText "set-order")) } } (.ref s.heap.objs.size) "set" := ⟨_, hS, rfl⟩
      have hli := F.called_set.init.lookup
      have hbi := F.called_set.init.bind (.ref s.heap.objs.size)
      repeat (any_goals (first | assumption | wp_step))

      refine codeAny_mono (codeAny_call_builtin (R := wants (fun r s₂ => r = .none ∧ ∃ h' tk, s₂ = { s with heap := h', toks := tk } ∧ SetX w h' s.heap.objs.size (met [] (sgs x)) ∧
          (∀ b o, s.heap.get? b = some o → h'.get? b = some o)) E) F.called_set.init.plain F.entry_set_init (check_set_init_1 hT ?_)) fun r₂ s₂ hr₂ => ?_
      · have hsls := PySem.F.sub_str_set
        have hslf := PySem.F.sub_str_frozenset
        have hne : (Value.type "str" == Value.type "dict") = false := by decide
        unfold Builtin.«set.__init__» noKeywords Builtin.Frozenset.updateFrom
        generalize hPI : pyIter = PI
        wp_walk
        subst hPI
        refine wpAny_pyIter_str fun o St hW hst => ?_
        refine wpAny_bind (wpAny_runValue ?_)
        have hh3 : A.in1.in1.in1.handled = none := by simp [hh]
        have hSf : s.heap.objs.size ∉ [(s.heap.push { cls := .type "set", dict := none, data := .set #[] 0 (.fresh 0 0 (!w.params.followText "set-order")) }).objs.size] := by
          rw [Heap.size_push, List.mem_singleton]
          exact Nat.ne_of_lt (Nat.lt_succ_self _)
        have hlen : x.cps.size = (sgs x).length := by unfold sgs; rw [List.length_map, Array.length_toList]
        refine setx_update ((hW _ hh3).toS) s.heap.objs.size
          hSf (sgs x) hlen (fun i v => sgs_at) (x.cps.size - 0) 0 _ [] (by omega) (Nat.zero_le _) hst ?hS0 (by simpa using hb) ?hR
        case hS0 => exact setx_fresh (Heap.get?_push_of_some _ hS)
        case hR =>
          intro s' hm hS'
          obtain ⟨h', g2, d', tk', os'⟩ := s'
          have eg : g2 = s.gens := hm.gens
          have ed : d' = s.drawn := hm.drawn
          have eo : os' = s.os := hm.os
          subst eg; subst ed; subst eo
          show wpAny _ _ _ _ _ _
          refine wpAny_pure ?_
          show wpAny _ _ (ret Value.none) _ _ _
          refine wpAny_pure ⟨rfl, h', tk', rfl, hS', fun b o e => ?_⟩
          have hb0 : b < s.heap.objs.size := Heap.lt_size e
          have hb1 : b ≠ s.heap.objs.size := Nat.ne_of_lt hb0
          have hb2 : b ≠ (s.heap.push { cls := .type "set", dict := none, data := .set #[] 0 (.fresh 0 0 (!w.params.followText "set-order")) }).objs.size := by
            rw [Heap.size_push]; exact Nat.ne_of_lt (Nat.lt_succ_of_lt hb0)
          exact hm.heap b o (by simp only [List.mem_cons, List.mem_singleton, List.not_mem_nil, or_false, not_or]; exact ⟨hb1, hb2⟩) (Heap.get?_push_of_some _ (Heap.get?_push_of_some _ e))
      · cases r₂ with
        | error e => exact hr₂
        | ok fl₂ =>
          cases fl₂ with
          | ret r =>
            obtain ⟨rfl, h', tk, rfl, hS', hk'⟩ := hr₂
            repeat (any_goals (first | assumption | wp_step))
            exact h _ _ hS' hk'
          | _ => exact hr₂.elim
    | _ => exact hr.elim
end
end DL

set_option Elab.async false
set_option linter.all false
set_option maxRecDepth 100000
set_option maxHeartbeats 3200000
/-! D14: sorted(set(text)), list(x) of a list, tuple or text. -/
namespace DL
open PySem L2 PySem.Spec PyProof.Rows
theorem strs_of : ∀ (l : List Value), (∀ v ∈ l, ∃ k tk, v = Value.str k tk) → StrsAre l (l.map vstr)
  | [], _ => .nil
  | v :: l, h => by
    obtain ⟨k, tk, rfl⟩ := h v List.mem_cons_self
    exact .cons k tk (strs_of l fun u hu => h u (List.mem_cons_of_mem _ hu))
section
variable {P : Program} {w : World} {A : Around} {E : Value → Shared → Prop} {s : Shared} {a : Addr} {l : List Str}
theorem sorted_setx {Q : Value → Shared → Prop} (R : SetX w s.heap a l) (hh : A.handled = none)
    (hQ : ∀ s' p (out : Array Value) (c : Nat) (ns : List Str), (∀ b o, s.heap.get? b = some o → s'.heap.get? b = some o) → s'.gens = s.gens → s'.os = s.os → s.heap.objs.size ≤ p →
      s'.heap.get? p = some (seqObj "list" out c) → StrsAre out.toList ns → ns.Perm l → sortedS ns = true → Q (.ref p) s') :
    wpAny (model P w) A (call (.builtin "sorted") [.ref a]) Q E s := by
  obtain ⟨o, es, ep, t, ho, hex, hd, g, pl, nd, hb, hf, hr, hl⟩ := R
  refine Calls.call_function_entry kind_sorted plain_sorted entry_sorted (args_sorted1 _) ?_
  unfold Builtin.«sorted»
  refine wpAny_bind (m := checkCount "sorted" 1 1 _) (wpAny_pure ?_)
  refine wpAny_bind (collect_set (A := A.in1) hh ⟨o, ho, hex.1, hd⟩ hf hb hr hl fun s1 vs k1 hz g1 o1 pm => ?_)
  have hvl : vs.length ≤ sizeLine := by rw [pm.length_eq, List.length_map, Array.length_toList]; exact fits_of_scanBound hb
  have hI : StrsAre vs (vs.map vstr) := strs_of vs fun v hv => by
    obtain ⟨e, he, q⟩ := List.mem_map.mp (pm.mem_iff.mp hv)
    obtain ⟨k, tk, h1, _⟩ := g e he
    exact ⟨k, tk, by rw [← q]; exact h1⟩
  have pk : (vs.map vstr).Perm (es.toList.map keyX) := by
    have q := pm.map vstr
    rw [List.map_map] at q
    exact q
  refine wpAny_bind (wpAny_newList ?_ hvl)
  have hoL : (s1.heap.push (seqObj "list" vs.toArray 0)).get? s1.heap.objs.size = some (seqObj "list" vs.toArray 0) := Heap.get?_push_size _ rfl
  refine wpAny_bind (wpAny_holding (wpAny_call_entry slot_list_sort ⟨_, hoL, rfl⟩ entry_list_sort (list_sort_treeKAny strKind_oneLt hoL hI.keysOf (fun v₁ v₂ rest e => keyKind_strs (by rw [← e]; exact hI)) hvl fun st' hp hs => ⟨_, rfl, ?_⟩) (args_list_sort _)))
  obtain ⟨ss', a1, a2, a3⟩ := sorted_out_str hI hp hs
  obtain ⟨c, hc⟩ := sortedHeap_at (vs := vs) (out := ((arrOf st').map (·.2))) hoL
  refine wpAny_pure ⟨_, rfl, hQ _ s1.heap.objs.size _ c ss' (fun b u e => ?_) g1 o1 hz hc a1 ((a2.trans pk).trans pl) a3⟩
  have q := k1 b u e
  have hlt := Heap.lt_size q
  show (sortedHeap (s1.heap.push (seqObj "list" vs.toArray 0)) s1.heap.objs.size vs ((arrOf st').map (·.2))).get? b = some u
  rw [sortedHeap_old (Nat.ne_of_lt hlt) (by rw [size_push']; exact Nat.lt_succ_of_lt hlt)]
  exact Heap.get?_push_of_some _ q
end
section
variable {X : Cx}
/-- sorted(set(text)) -/
def tSortSet (ta : TE) : TE := fun σ H Q => ta σ H fun v H1 => ∃ x : Str, v = .str x ∧ x.cps.size ≤ 1000 ∧ ∀ (ys : List Str) (p : Addr), ys.Perm (met [] (sgs x)) → sortedS ys = true → H1 p = none → Q (.ref p) (upd H1 p (.lst (ys.map V.str)))
theorem pe_sortSet {a : Expr} {ta : TE} {p p2 q pos : Pos} (hc : X.calm = true) (hg : Gl X "sorted") (hm : X.mg "sorted" = none) (hg2 : Gl X "set") (hm2 : X.mg "set" = none) (ha : PE X a ta)
    (hb : bootBuiltins "sorted" = some (.builtin "sorted") := by decide +kernel)
    (na : starEach [a] X.env = (false, eval a X.env) :: starEach [] X.env := by rfl) : PE X (.Call (.Name "sorted" p) [.Call (.Name "set" p2) [a] [] q] [] pos) (tSortSet ta) := by
  refine ⟨fun pins s σ H Q I h => ?_⟩
  refine Call_ (ld_blt I hg hm hb ?_)
  refine PyProof.Rows.callWith_builtin1 (PyProof.Rows.args_cons ?_ rfl) rfl rfl
  refine Call_ (ld_blt I hg2 hm2 boot_set ?_)
  refine PyProof.Rows.callWith_type1 (PyProof.Rows.args_cons (thn (ha.run pins s σ H _ I h) fun v s1 ⟨x, H1, I1, r1, q1⟩ => PyProof.Rows.args_nil ?_) na) na rfl
  obtain ⟨x, rfl, hx, q1⟩ := q1
  obtain ⟨tk, rfl⟩ := r1
  refine call_set_txt (I1.ok.hd hc) (by show _ < 4096; omega) fun h' tk' hS hk => ?_
  refine PyProof.Rows.args_nil ?_
  have I2 : Inv X pins σ H1 { s1 with heap := h', toks := tk' } := I1.kept hk
  refine sorted_setx (s := { s1 with heap := h', toks := tk' }) hS (I2.ok.hd hc) fun s' p out c ns k g o hp hgt hi hpm hs => ?_
  have hlen : (ns.map V.str).length ≤ sizeLine := by
    rw [List.length_map, hpm.length_eq]
    have h1 := met_len (sgs x) []
    have h2 : (sgs x).length = x.cps.size := by unfold sgs; rw [List.length_map, Array.length_toList]
    rw [sizeLine_eq]
    simp only [List.length_nil, Nat.zero_add] at h1
    omega
  have hn : H1 p = none := I2.hok.fresh hp
  have J : Inv X pins σ (upd H1 p (.lst (ns.map V.str))) s' := I2.call' (ch := []) o (Un.laid k hp hn) (I2.hok.laid k hp ⟨hlen, out.toList, c, vals_of_strs hi, hgt⟩) (by rw [g]; exact I2.bare) (fun _ z => nomatch z)
  exact ⟨.ref p, _, J, rfl, q1 ns p hpm hs hn⟩
/-- list(x): a list, a tuple, a text -/
def rListA (K : PySem.W.Frag) : List V → Hp → VK → Prop := fun xs H Q => (∃ p ys, xs = [.ref p] ∧ (SqL K H p ys ∨ SqT K H p ys) ∧ ∀ l, H l = none → Q (.ref l) (upd H l (.lst ys))) ∨
  ∃ x : Str, xs = [.str x] ∧ x.cps.size ≤ sizeLine ∧ ∀ l, H l = none → Q (.ref l) (upd H l (.lst ((sgs x).map V.str)))
theorem items_sgs {x : Str} {acc : Array Value} (h : ItemsOf (SignAt x) acc x.cps.size) : Vals ((sgs x).map V.str) acc.toList := by
  have e : ∀ (ys : List Str) (us : List Value), ys.length = us.length → (∀ (i : Nat) (k : Str) (u : Value), ys[i]? = some k → us[i]? = some u → ∃ t, u = Value.str k t) → Vals (ys.map V.str) us := by
    intro ys
    induction ys with
    | nil =>
      intro us hl _
      cases us with
      | nil => exact .nil
      | cons _ _ => cases hl
    | cons y ys ih =>
      intro us hl hi
      cases us with
      | nil => cases hl
      | cons u us => exact .cons (hi 0 y u rfl rfl) (ih us (by simpa using hl) fun i k v h1 h2 => hi (i + 1) k v (by simpa using h1) (by simpa using h2))
  refine e _ _ ?_ fun i k u h1 h2 => ?_
  · unfold sgs; rw [List.length_map, Array.length_toList, Array.length_toList, h.1]
  · rw [Array.getElem?_toList] at h2
    obtain ⟨k', t, h3, rfl⟩ := sgs_at (h.2 i u h2)
    rw [h1] at h3
    cases h3
    exact ⟨t, rfl⟩
theorem call_listA (hc : X.calm = true) : CallR X (.type "list") (rListA X.K) := by
  intro pins s σ H vs us Q I r h
  rcases h with h | ⟨x, rfl, hx, q⟩
  · exact call_list_of pins s σ H vs us Q I r h
  · obtain ⟨u, rfl, t, rfl⟩ := vals1 r
    refine call_list_str (I.ok.hd hc) x t (hn := hx) fun h' tk acc c hk hl hi => ?_
    have hlen : ((sgs x).map V.str).length ≤ sizeLine := by unfold sgs; rw [List.length_map, List.length_map, Array.length_toList]; exact hx
    exact ⟨.ref _, upd H s.heap.objs.size (.lst ((sgs x).map V.str)), I.laid (t' := tk) hk (Nat.le_refl _) ⟨hlen, acc.toList, c, items_sgs hi, hl⟩, rfl, q _ (I.hok.fresh (Nat.le_refl _))⟩
end
section
variable {c : Cn} {n : Nat} {env : DL.Env}
theorem ed_sortSet {te : TE} {R : Nat → Dv → Prop} (h : ED c te n env fun n1 d => ∃ x : Str, d = .str x ∧ x.cps.size ≤ 1000 ∧ ∀ ys : List Str, ys.Perm (met [] (sgs x)) → sortedS ys = true → R n1 (.lst (ys.map Dv.str))) : ED c (tSortSet te) n env R := fun B H σ r Q q =>
  h B H σ r _ fun v H1 n1 d r1 e1 h1 ⟨x, e, hx, k⟩ => by
    subst e
    cases h1
    refine ⟨x, rfl, hx, fun ys p hp hs hn => ?_⟩
    exact q _ _ n1 _ (r1.same (same_new hn _)) (e1.trans (Ext0.same (same_new hn _))) (.lst (ql_new r1.live hn) (dta_strs ys)) (k ys hp hs)
variable {R : Dv → Prop}
theorem cd_listA {d : Dv} {ds : List Dv} (e : seqD d = some ds) (k : R (.lst ds)) : CD c (rListA c.K) [d] R := fun B H xs lv hx Q q => .inl (cd_list e k B H xs lv hx Q q)
theorem cd_listS {x : Str} (hx : x.cps.size ≤ sizeLine) (k : R (.lst ((sgs x).map Dv.str))) : CD c (rListA c.K) [.str x] R := fun B H xs lv hxs Q q => by
  cases hxs with
  | cons a b =>
    cases b
    cases a
    exact .inr ⟨x, rfl, hx, fun p hp => q _ _ _ (same_new hp _) (.lst (ql_new lv hp) (dta_strs _)) k⟩
end
end DL

set_option Elab.async false
set_option linter.all false
set_option maxRecDepth 100000
set_option maxHeartbeats 3200000
/-! D15: bools among ints, str(x), what a value of any kind may weigh. -/
namespace DL
open PySem L2 PySem.Spec PyProof.Rows
section
variable {X : Cx}
def rAddB : R2 := fun x y H Q => (∃ k i, x = .bl k ∧ y = .int i ∧ Q (.int ((if k = true then 1 else 0) + i)) H) ∨ ∃ i k, x = .int i ∧ y = .bl k ∧ Q (.int (i + (if k = true then 1 else 0))) H
theorem op_addB : OpR X (binaryOp .Add) rAddB := by
  intro pins s σ H x y v u Q I rx ry h
  rcases h with ⟨k, i, rfl, rfl, q⟩ | ⟨i, k, rfl, rfl, q⟩
  · cases rx
    obtain ⟨t, rfl⟩ := ry
    exact PySem.IntBool.add_bool_int ⟨.int _, H, I.tok _, ⟨_, rfl⟩, q⟩
  · obtain ⟨t, rfl⟩ := rx
    cases ry
    exact add_int_bool ⟨.int _, H, I.tok _, ⟨_, rfl⟩, q⟩
def rAddV (K : PySem.W.Frag) : R2 := fun x y H Q => rAddU K x y H Q ∨ rAddB x y H Q
theorem op_addV : OpR X (binaryOp .Add) (rAddV X.K) := OpR.or op_addU op_addB
def rSubV : R2 := fun x y H Q => rI0 (fun i j => .int (i - j)) x y H Q ∨ (∃ k i, x = .bl k ∧ y = .int i ∧ Q (.int ((if k = true then 1 else 0) - i)) H)
theorem op_subB : OpR X (binaryOp .Sub) (fun x y H Q => ∃ k i, x = .bl k ∧ y = .int i ∧ Q (.int ((if k = true then 1 else 0) - i)) H) := by
  intro pins s σ H x y v u Q I rx ry h
  obtain ⟨k, i, rfl, rfl, q⟩ := h
  cases rx
  obtain ⟨t, rfl⟩ := ry
  exact PySem.IntBool.sub_bool_int ⟨.int _, H, I.tok _, ⟨_, rfl⟩, q⟩
theorem op_subV : OpR X (binaryOp .Sub) rSubV := OpR.or op_sub op_subB
/-- str(x): an int, a bool, a text -/
def rStrA : List V → Hp → VK → Prop := fun xs H Q => (∃ i, xs = [.int i] ∧ i.natAbs.log2 < 1920 ∧ Q (.str (toString i)) H) ∨ (∃ k, xs = [.bl k] ∧ Q (.str (if k = true then "True" else "False")) H) ∨ ∃ a, xs = [.str a] ∧ Q (.str a) H
theorem call_strA : CallR X (.type "str") rStrA := by
  intro pins s σ H vs us Q I r h
  rcases h with h | ⟨k, rfl, q⟩ | h
  · exact call_str_int pins s σ H vs us Q I r h
  · obtain ⟨u, rfl, hu⟩ := vals1 r
    cases hu
    refine PySem.P.str_of_bool ⟨.str (if k = true then "True" else "False"), H, I.tok _, ⟨s.toks, ?_⟩, q⟩
    cases k <;> rfl
  · exact SkE.call_str_str pins s σ H vs us Q I r h
end
section
variable {c : Cn} {R : Dv → Prop}
theorem oa_i {a b : Int} (k : R (.int (a + b))) : OD c (rAddV c.K) (.int a) (.int b) R := fun B H x y lv hx hy Q q => .inl (od_add k B H x y lv hx hy Q q)
theorem oa_bi {a : Bool} {b : Int} (k : R (.int ((if a = true then 1 else 0) + b))) : OD c (rAddV c.K) (.bl a) (.int b) R := fun B H x y lv hx hy Q q => by
  cases hx; cases hy
  exact .inr (.inl ⟨_, _, rfl, rfl, q _ H _ (Same.refl _) (.int _) k⟩)
theorem oa_ib {a : Int} {b : Bool} (k : R (.int (a + (if b = true then 1 else 0)))) : OD c (rAddV c.K) (.int a) (.bl b) R := fun B H x y lv hx hy Q q => by
  cases hx; cases hy
  exact .inr (.inr ⟨_, _, rfl, rfl, q _ H _ (Same.refl _) (.int _) k⟩)
theorem os_i {a b : Int} (k : R (.int (a - b))) : OD c rSubV (.int a) (.int b) R := fun B H x y lv hx hy Q q => .inl (od_sub (c := c) k B H x y lv hx hy Q q)
theorem os_bi {a : Bool} {b : Int} (k : R (.int ((if a = true then 1 else 0) - b))) : OD c rSubV (.bl a) (.int b) R := fun B H x y lv hx hy Q q => by
  cases hx; cases hy
  exact .inr ⟨_, _, rfl, rfl, q _ H _ (Same.refl _) (.int _) k⟩
theorem cs_i {i : Int} (h : i.natAbs.log2 < 1920) (k : R (.str (toString i))) : CD c rStrA [.int i] R := fun B H xs lv hx Q q => by
  cases hx with
  | cons a b => cases b; cases a; exact .inl ⟨_, rfl, h, q _ H _ (Same.refl _) (.str _) k⟩
theorem cs_b {b : Bool} (k : R (.str (if b = true then "True" else "False"))) : CD c rStrA [.bl b] R := fun B H xs lv hx Q q => by
  cases hx with
  | cons a b => cases b; cases a; exact .inr (.inl ⟨_, rfl, q _ H _ (Same.refl _) (.str _) k⟩)
theorem cs_s {x : Str} (k : R (.str x)) : CD c rStrA [.str x] R := fun B H xs lv hx Q q => by
  cases hx with
  | cons a b => cases b; cases a; exact .inr (.inr ⟨_, rfl, q _ H _ (Same.refl _) (.str _) k⟩)
theorem oA {d e : Dv} (h : OD c (rAddU c.K) d e R) : OD c (rAddV c.K) d e R := fun B H x y lv hx hy Q q => .inl (h B H x y lv hx hy Q q)
end

/-! ### what a value may weigh -/
def keyOkD : Key → Bool
  | .inl i => decide (i.natAbs.log2 < 900)
  | .inr x => PyData.strOk x
mutual
def okD : Dv → Bool
  | .non => true
  | .bl _ => true
  | .int i => decide (i.natAbs.log2 < 900)
  | .str x => PyData.strOk x
  | .tup ds => okA ds
  | .lst ds => okA ds
  | .dic es => okE es
  | _ => false
def okA : List Dv → Bool
  | [] => true
  | d :: ds => okD d && okA ds
def okE : List (Key × Dv) → Bool
  | [] => true
  | (k, d) :: es => keyOkD k && okD d && okE es
end
mutual
theorem ok_plain : ∀ d : Dv, okD d = true → plain d = true
  | .non, _ => rfl
  | .bl _, _ => rfl
  | .int _, _ => rfl
  | .str _, _ => rfl
  | .tup ds, h => by simp only [plain]; exact okA_plain ds (by simpa only [okD] using h)
  | .lst ds, h => by simp only [plain]; exact okA_plain ds (by simpa only [okD] using h)
  | .dic es, h => by simp only [plain]; exact okE_plain es (by simpa only [okD] using h)
  | .ins _ _, h => by simp [okD] at h
  | .deck _, h => by simp [okD] at h
  | .scr _, h => by simp [okD] at h
theorem okA_plain : ∀ ds : List Dv, okA ds = true → plainA ds = true
  | [], _ => rfl
  | d :: ds, h => by
    have h' : okD d = true ∧ okA ds = true := by simpa [okA] using h
    simp only [plainA, Bool.and_eq_true]
    exact ⟨ok_plain d h'.1, okA_plain ds h'.2⟩
theorem okE_plain : ∀ es : List (Key × Dv), okE es = true → plainE es = true
  | [], _ => rfl
  | (k, d) :: es, h => by
    have h' : (keyOkD k = true ∧ okD d = true) ∧ okE es = true := by simpa [okE] using h
    simp only [plainE, Bool.and_eq_true]
    exact ⟨ok_plain d h'.1.2, okE_plain es h'.2⟩
end
theorem ok_sign {x : Str} (h : PyData.strOk x = true) : (x.cps.toList.all fun c => decide (c < 16 ^ 8)) = true := by
  unfold PyData.strOk at h
  rw [← Array.all_toList] at h
  rw [List.all_eq_true] at h ⊢
  intro c hc
  have := h c hc
  simp only [decide_eq_true_eq] at this ⊢
  have e : (16 : Nat) ^ 8 = 4294967296 := by decide
  omega
theorem ok_int {i : Int} (h : i.natAbs.log2 < 900) : (PyData.shown (.int i)).length ≤ 1000 := by
  simp only [PyData.shown]
  rw [PySem.ofString_length]
  have := int_text_length_le (a := i) (k := 900) (by decide) h
  omega
mutual
theorem ok_leaves : ∀ d : Dv, okD d = true → (py d).leavesShort 1000 = true ∧ (py d).showable = true
  | .non, _ => ⟨rfl, rfl⟩
  | .bl _, _ => ⟨rfl, rfl⟩
  | .int i, h => by
    have h' : i.natAbs.log2 < 900 := by simpa [okD] using h
    simp only [py, PyData.leavesShort, PyData.showable, decide_eq_true_eq]
    exact ⟨ok_int h', by omega⟩
  | .str x, h => by
    have h' : PyData.strOk x = true := by simpa [okD] using h
    simp only [py, PyData.leavesShort, PyData.showable]
    exact ⟨ok_sign h', trivial⟩
  | .tup ds, h => by simp only [py, PyData.leavesShort, PyData.showable]; exact okA_leaves ds (by simpa only [okD] using h)
  | .lst ds, h => by simp only [py, PyData.leavesShort, PyData.showable]; exact okA_leaves ds (by simpa only [okD] using h)
  | .dic es, h => by simp only [py, PyData.leavesShort, PyData.showable]; exact okE_leaves es (by simpa only [okD] using h)
  | .ins _ _, h => by simp [okD] at h
  | .deck _, h => by simp [okD] at h
  | .scr _, h => by simp [okD] at h
theorem okA_leaves : ∀ ds : List Dv, okA ds = true → PyData.leavesShortAll 1000 (pyA ds) = true ∧ PyData.showableAll (pyA ds) = true
  | [], _ => ⟨rfl, rfl⟩
  | d :: ds, h => by
    have h' : okD d = true ∧ okA ds = true := by simpa [okA] using h
    simp only [pyA, PyData.leavesShortAll, PyData.showableAll, Bool.and_eq_true]
    have h1 := ok_leaves d h'.1
    have h2 := okA_leaves ds h'.2
    exact ⟨⟨h1.1, h2.1⟩, ⟨h1.2, h2.2⟩⟩
theorem okE_leaves : ∀ es : List (Key × Dv), okE es = true → PyData.leavesShortKv 1000 (pyE es) = true ∧ PyData.showableKv (pyE es) = true
  | [], _ => ⟨rfl, rfl⟩
  | (k, d) :: es, h => by
    have h' : (keyOkD k = true ∧ okD d = true) ∧ okE es = true := by simpa [okE] using h
    simp only [pyE, PyData.leavesShortKv, PyData.showableKv, Bool.and_eq_true]
    have h1 := ok_leaves d h'.1.2
    have h2 := okE_leaves es h'.2
    have h3 : (pyK k).leavesShort 1000 = true ∧ (pyK k).showable = true := by
      have hk := h'.1.1
      cases k with
      | inl i =>
        have hk' : i.natAbs.log2 < 900 := by simpa [keyOkD] using hk
        simp only [pyK, PyData.leavesShort, PyData.showable, decide_eq_true_eq]
        exact ⟨ok_int hk', by omega⟩
      | inr x =>
        have hk' : PyData.strOk x = true := by simpa [keyOkD] using hk
        simp only [pyK, PyData.leavesShort, PyData.showable]
        exact ⟨ok_sign hk', trivial⟩
    exact ⟨⟨⟨h3.1, h1.1⟩, h2.1⟩, ⟨⟨h3.2, h1.2⟩, h2.2⟩⟩
end
/-- a plain value: m its weight at most, k its depth -/
structure Ok (m k : Nat) (d : Dv) : Prop where
  ok : okD d = true
  wt : (py d).weight ≤ m
  dp : (py d).depth ≤ k
theorem Ok.more {m k m' k' : Nat} {d : Dv} (h : Ok m k d) (a : m ≤ m') (b : k ≤ k') : Ok m' k' d := ⟨h.ok, Nat.le_trans h.wt a, Nat.le_trans h.dp b⟩
theorem Ok.short {m k : Nat} {d : Dv} (h : Ok m k d) (a : m ≤ 16000) : (py d).shown.length ≤ sizeLine := by
  have h1 := PyData.shown_le 1000 (by decide) (py d) (ok_leaves d h.ok).1
  have h2 := h.wt
  rw [sizeLine_eq]
  omega
section
variable {c : Cn} {R : Dv → Prop}
theorem cd_reprO {m k : Nat} {d : Dv} (h : Ok m k d) (a : m ≤ 16000) (b : k ≤ 60) (q : R (.str (py d).shown)) : CD c (rRepr c.K) [d] R :=
  cd_repr (ok_plain d h.ok) (ok_leaves d h.ok).2 (Nat.le_trans h.dp b) (h.short a) q
end
/-! ### lists of plain values -/
theorem okA_iff : ∀ {ds : List Dv}, okA ds = true ↔ ∀ d ∈ ds, okD d = true
  | [] => by simp [okA]
  | d :: ds => by simp [okA, okA_iff (ds := ds)]
theorem wtA_mem : ∀ {ds : List Dv} {d : Dv}, d ∈ ds → (py d).weight ≤ PyData.weightAll (pyA ds)
  | e :: ds, d, h => by
    rcases List.mem_cons.mp h with z | z
    · subst z; simp only [pyA, PyData.weightAll]; omega
    · have := wtA_mem z; simp only [pyA, PyData.weightAll]; omega
theorem dpA_mem : ∀ {ds : List Dv} {d : Dv}, d ∈ ds → (py d).depth ≤ PyData.depthAll (pyA ds)
  | e :: ds, d, h => by
    rcases List.mem_cons.mp h with z | z
    · subst z; simp only [pyA, PyData.depthAll]; omega
    · have := dpA_mem z; simp only [pyA, PyData.depthAll]; omega
theorem wtA_app : ∀ (ds es : List Dv), PyData.weightAll (pyA (ds ++ es)) = PyData.weightAll (pyA ds) + PyData.weightAll (pyA es)
  | [], es => by simp [pyA, PyData.weightAll]
  | d :: ds, es => by have := wtA_app ds es; simp only [List.cons_append, pyA, PyData.weightAll]; omega
theorem dpA_app : ∀ (ds es : List Dv), PyData.depthAll (pyA (ds ++ es)) = max (PyData.depthAll (pyA ds)) (PyData.depthAll (pyA es))
  | [], es => by simp [pyA, PyData.depthAll]
  | d :: ds, es => by have := dpA_app ds es; simp only [List.cons_append, pyA, PyData.depthAll]; omega
theorem okA_app {ds es : List Dv} : okA (ds ++ es) = true ↔ okA ds = true ∧ okA es = true := by
  simp only [okA_iff, List.mem_append]
  exact ⟨fun h => ⟨fun d hd => h d (.inl hd), fun d hd => h d (.inr hd)⟩, fun h d hd => hd.elim (h.1 d) (h.2 d)⟩
theorem len_wtA : ∀ ds : List Dv, ds.length ≤ PyData.weightAll (pyA ds)
  | [] => Nat.le_refl _
  | d :: ds => by have := len_wtA ds; simp only [pyA, PyData.weightAll, List.length_cons]; omega
theorem Ok.item {m k : Nat} {ds : List Dv} {d : Dv} (h : Ok m k (.tup ds)) (hd : d ∈ ds) : Ok m k d := by
  have h1 := h.ok
  have h2 := h.wt
  have h3 := h.dp
  simp only [okD, py, PyData.weight, PyData.depth] at h1 h2 h3
  exact ⟨okA_iff.mp h1 d hd, Nat.le_trans (wtA_mem hd) h2, by have := dpA_mem hd; omega⟩
/-- of any parts, in a tuple or a list -/
theorem Ok.tup {m k : Nat} {ds : List Dv} (h1 : okA ds = true) (h2 : PyData.weightAll (pyA ds) ≤ m) (h3 : PyData.depthAll (pyA ds) + 1 ≤ k) : Ok m k (.tup ds) := ⟨by simpa only [okD] using h1, by simpa only [py, PyData.weight] using h2, by simpa only [py, PyData.depth] using h3⟩
theorem Ok.lst {m k : Nat} {ds : List Dv} (h1 : okA ds = true) (h2 : PyData.weightAll (pyA ds) ≤ m) (h3 : PyData.depthAll (pyA ds) + 1 ≤ k) : Ok m k (.lst ds) := ⟨by simpa only [okD] using h1, by simpa only [py, PyData.weight] using h2, by simpa only [py, PyData.depth] using h3⟩
theorem Ok.tupA {m k : Nat} {ds : List Dv} (h : Ok m k (.tup ds)) : okA ds = true ∧ PyData.weightAll (pyA ds) ≤ m ∧ PyData.depthAll (pyA ds) + 1 ≤ k := ⟨by simpa only [okD] using h.ok, by simpa only [py, PyData.weight] using h.wt, by simpa only [py, PyData.depth] using h.dp⟩
theorem Ok.lstA {m k : Nat} {ds : List Dv} (h : Ok m k (.lst ds)) : okA ds = true ∧ PyData.weightAll (pyA ds) ≤ m ∧ PyData.depthAll (pyA ds) + 1 ≤ k := ⟨by simpa only [okD] using h.ok, by simpa only [py, PyData.weight] using h.wt, by simpa only [py, PyData.depth] using h.dp⟩
theorem Ok.str {m k : Nat} {x : Str} (h : PyData.strOk x = true) (l : x.cps.size ≤ m) : Ok m k (.str x) := ⟨by simpa only [okD] using h, by simpa only [py, PyData.weight] using l, by simp only [py, PyData.depth]; omega⟩
theorem Ok.strA {m k : Nat} {x : Str} (h : Ok m k (.str x)) : PyData.strOk x = true ∧ x.cps.size ≤ m := ⟨by simpa only [okD] using h.ok, by simpa only [py, PyData.weight] using h.wt⟩
theorem Ok.bl {m k : Nat} {b : Bool} : Ok m k (.bl b) := ⟨rfl, by simp only [py, PyData.weight]; omega, by simp only [py, PyData.depth]; omega⟩
theorem Ok.non {m k : Nat} : Ok m k .non := ⟨rfl, by simp only [py, PyData.weight]; omega, by simp only [py, PyData.depth]; omega⟩
theorem Ok.int {m k : Nat} {i : Int} (h : i.natAbs.log2 < 900) (l : i.natAbs.log2 + 1 ≤ m) : Ok m k (.int i) := ⟨by simpa [okD] using h, by simp only [py, PyData.weight]; split <;> omega, by simp only [py, PyData.depth]; omega⟩
theorem Ok.intA {m k : Nat} {i : Int} (h : Ok m k (.int i)) : i.natAbs.log2 < 900 ∧ i.natAbs.log2 ≤ m := by
  have h1 := h.ok
  have h2 := h.wt
  simp only [okD, decide_eq_true_eq] at h1
  simp only [py, PyData.weight] at h2
  refine ⟨h1, ?_⟩
  by_cases q : i = 0
  · subst q; simp
  · have : (i == 0) = false := by simpa using q
    rw [this] at h2
    simp only [Bool.false_eq_true, if_false] at h2
    omega
theorem log2_succ (n : Nat) : (n + 1).log2 ≤ n.log2 + 1 := by
  by_cases h : n = 0
  · subst h; decide
  · have h1 : n < 2 ^ (n.log2 + 1) := Nat.lt_log2_self
    have h2 : n + 1 < 2 ^ (n.log2 + 2) := by
      have e : 2 ^ (n.log2 + 2) = 2 ^ (n.log2 + 1) * 2 := Nat.pow_succ ..
      have := Nat.pos_of_ne_zero (Nat.ne_of_gt (Nat.two_pow_pos (n.log2 + 1)))
      omega
    have h3 := (Nat.log2_lt (by omega : n + 1 ≠ 0)).mpr h2
    omega
theorem log2_le {a b : Nat} (h : a ≤ b) : a.log2 ≤ b.log2 := by
  by_cases q : a = 0
  · subst q; simp
  · have h1 : b < 2 ^ (b.log2 + 1) := Nat.lt_log2_self
    have := (Nat.log2_lt q).mpr (Nat.lt_of_le_of_lt h h1)
    omega
theorem Ok.near {m k : Nat} {i j : Int} (h : Ok m k (.int i)) (l : m < 899) (hj : j.natAbs ≤ i.natAbs + 1) : Ok (m + 2) k (.int j) := by
  have h1 := h.intA
  have h2 := Nat.le_trans (log2_le hj) (log2_succ _)
  exact .int (by omega) (by omega)
end DL

set_option Elab.async false
set_option linter.all false
set_option maxRecDepth 100000
set_option maxHeartbeats 2000000
/-! D16: the drawing deck. -/
namespace DL
open PySem PySem.Spec L2
section
variable {c : Cn} {n : Nat} {env : DL.Env} {N : DN} {te : TE} {i : Nat} {kb : Str}
theorem Rel.deck {B : Addr → Prop} {H : Hp} {σ : L2.St} (R : Rel c B n H σ env) (hi : env[i]? = some (some (.fz (.deck kb)))) : ∃ p, c.wd.dek = some p ∧ p.kb = kb ∧ σ[i]? = some (some (.ref p.dk)) := by
  obtain ⟨v, e, h⟩ := R.fz i _ hi
  cases h with
  | deck w => exact ⟨_, w, rfl, e⟩
theorem val_draws {kb : Str} (h : kb ≠ "draws") {a b d : V} : valV ([(Sum.inr "cells", a), (Sum.inr kb, b), (Sum.inr "draws", d)] : List (Key × V)) (Sum.inr "draws" : Key) = some d := by
  unfold valV
  have h1 : ¬ ((Sum.inr ("cells" : Str) : Key) = Sum.inr ("draws" : Str)) := by decide +kernel
  have h2 : ¬ ((Sum.inr kb : Key) = Sum.inr ("draws" : Str)) := fun z => h (Sum.inr.inj z)
  simp [List.find?, h1, h2]
theorem val_kb {kb : Str} (h : kb ≠ "cells") {a b d : V} : valV ([(Sum.inr "cells", a), (Sum.inr kb, b), (Sum.inr "draws", d)] : List (Key × V)) (Sum.inr kb : Key) = some b := by
  unfold valV
  have h2 : ¬ ((Sum.inr ("cells" : Str) : Key) = Sum.inr kb) := fun z => h (Sum.inr.inj z).symm
  simp [List.find?, h2]
theorem val_cells {kb : Str} {a b d : V} : valV ([(Sum.inr "cells", a), (Sum.inr kb, b), (Sum.inr "draws", d)] : List (Key × V)) (Sum.inr "cells" : Key) = some a := by
  unfold valV
  simp [List.find?]
theorem put_draws {kb : Str} (h : kb ≠ "draws") {a b d e : V} : putK ([(Sum.inr "cells", a), (Sum.inr kb, b), (Sum.inr "draws", d)] : List (Key × V)) (Sum.inr "draws" : Key) e = ([(Sum.inr "cells", a), (Sum.inr kb, b), (Sum.inr "draws", e)] : List (Key × V)) := by
  unfold putK
  have h1 : ¬ ((Sum.inr ("cells" : Str) : Key) = Sum.inr ("draws" : Str)) := by decide +kernel
  have h2 : ¬ ((Sum.inr kb : Key) = Sum.inr ("draws" : Str)) := fun z => h (Sum.inr.inj z)
  simp [h1, h2]
/-- the deck is turned: what may change -/
theorem Rel.turnDeck {B : Addr → Prop} {H H' : Hp} {σ : L2.St} {m : Nat} (R : Rel c B n H σ env) (e : ∀ a o, H a = some o → ¬ Dk c.wd a → H' a = some o) (w : WOk c.wd m H') : Rel c B m H' σ env ∧ Ext0 c.wd H H' := ⟨R.ext e w, e⟩
/-- deck["draws"] -/
theorem ed_draws {R : Nat → Dv → Prop} (hi : env[i]? = some (some (.fz (.deck kb)))) (hk : kb ≠ "draws") (h : ∀ k : Int, 0 ≤ k → k + n ≤ lim → R n (.int k)) : ED c (tDGet (tVar i) (tC (.str "draws"))) n env R := fun B H σ r Q q => by
  obtain ⟨p, hp, rfl, e⟩ := r.deck hi
  obtain ⟨ne, m, k, cs, h1, h2, l, m0, m1, k0, k1⟩ := r.wok p hp
  refine ⟨_, e, p.dk, .int k, rfl, .inl ⟨_, Sum.inr "draws", .inl h1, rfl, (val_draws hk).symm⟩, q _ H n _ r (Ext0.refl _ _) (.int k) (h k k0 k1)⟩
/-- deck["mixed"] -/
theorem ed_mixed {R : Nat → Dv → Prop} (hi : env[i]? = some (some (.fz (.deck kb)))) (hk : kb ≠ "cells") (h : ∀ m : Int, 0 ≤ m → m < 4294967296 → R n (.int m)) : ED c (tDGet (tVar i) (tC (.str kb))) n env R := fun B H σ r Q q => by
  obtain ⟨p, hp, rfl, e⟩ := r.deck hi
  obtain ⟨ne, m, k, cs, h1, h2, l, m0, m1, k0, k1⟩ := r.wok p hp
  refine ⟨_, e, p.dk, .int m, rfl, .inl ⟨_, Sum.inr p.kb, .inl h1, rfl, (val_kb hk).symm⟩, q _ H n _ r (Ext0.refl _ _) (.int m) (h m m0 m1)⟩
/-- deck["draws"] = deck["draws"] + 1 -/
theorem sd_bump (hi : env[i]? = some (some (.fz (.deck kb)))) (hk : kb ≠ "draws") (hn : 1 ≤ n) (h : N.nx (n - 1) env) :
    SD c (sDPut (tVar i) (tC (.str "draws")) (tOp (rAddV c.K) (tDGet (tVar i) (tC (.str "draws"))) (tC (.int 1)))) n env N := fun B H σ b r D l => by
  obtain ⟨p, hp, rfl, e⟩ := r.deck hi
  obtain ⟨ne, m, k, cs, h1, h2, lc, m0, m1, k0, k1⟩ := r.wok p hp
  refine ⟨_, e, p.dk, .int k, rfl, .inl ⟨_, Sum.inr "draws", .inl h1, rfl, (val_draws hk).symm⟩, .inl (.inl ⟨k, 1, rfl, rfl, ?_⟩)⟩
  refine ⟨_, e, p.dk, _, rfl, DPut.k (k := Sum.inr "draws") h1 (by show 3 < sizeLine; decide), ?_⟩
  rw [put_draws hk]
  have hd : Dk c.wd p.dk := ⟨p, hp, .inl rfl⟩
  have keep : ∀ a o, H a = some o → ¬ Dk c.wd a → upd H p.dk (.dK [(Sum.inr "cells", .ref p.cl), (Sum.inr p.kb, .int m), (Sum.inr "draws", .int (k + 1))]) a = some o := fun a o q z => by
    rw [upd_ne (show a ≠ p.dk from fun y => z (y ▸ hd))]
    exact q
  have w : WOk c.wd (n - 1) (upd H p.dk (.dK [(Sum.inr "cells", .ref p.cl), (Sum.inr p.kb, .int m), (Sum.inr "draws", .int (k + 1))])) := fun q hq => by
    rw [hp] at hq
    cases hq
    exact ⟨ne, m, k + 1, cs, upd_same, by rw [upd_ne ne.symm]; exact h2, by omega, m0, m1, by omega, by omega⟩
  obtain ⟨r2, e2⟩ := r.turnDeck keep w
  exact l.nx B _ σ (n - 1) env (Step.ext r e2) b r2 h
theorem shaped_ints (ns : List Int) : SeqAt.shaped (py (.lst (ns.map Dv.int))) = true := by
  have h1 : ∀ ns : List Int, PyData.canLayAll0 (pyA (ns.map Dv.int)) = true := fun ns => by
    induction ns with
    | nil => rfl
    | cons a r ih => simp [pyA, py, PyData.canLayAll0, PyData.canLay0, ih]
  have h2 : ∀ ns : List Int, PyData.depthAll (pyA (ns.map Dv.int)) = 0 := fun ns => by
    induction ns with
    | nil => rfl
    | cons a r ih => simp [pyA, py, PyData.depthAll, PyData.depth, ih]
  simp [SeqAt.shaped, py, PyData.canLay0, PyData.depth, h1, h2]
theorem plain_ints (ns : List Int) : plain (.lst (ns.map Dv.int)) = true := by
  have h1 : ∀ ns : List Int, plainA (ns.map Dv.int) = true := fun ns => by
    induction ns with
    | nil => rfl
    | cons a r ih => simp [plainA, plain, ih]
  simp [plain, h1]
theorem eqv_ints_nil (ns : List Int) : PyData.eqv (py (.lst (ns.map Dv.int))) (py (.lst [])) = ns.isEmpty := by
  cases ns <;> simp [py, pyA, PyData.eqv, PyData.eqvAll]
/-- if deck["cells"] != []: .. -/
def tCells (i : Nat) : TE := tDGet (tVar i) (tC (.str "cells"))
theorem sd_cells {j : Nat} {u : TS} (pop : TE) (hpop : pop = tBM0 c.K "list" rPop (tDGet (tVar i) (tC (.str "cells"))) ∨ pop = tCB (fun xs H Q => (∃ i, xs = [.int i] ∧ Q (.int i) H) ∨ ∃ k, xs = [.bl k] ∧ Q (.int (if k then 1 else 0)) H) (tCons (tBM0 c.K "list" rPop (tDGet (tVar i) (tC (.str "cells")))) tNil))
    (hi : env[i]? = some (some (.fz (.deck kb)))) (h1 : ∀ z : Int, SD c u n (env.set j (some (.fz (.int z)))) N) (h2 : N.nx n env) :
    SD c (tIfS (tTest (tOp (rEqV c.K true) (tDGet (tVar i) (tC (.str "cells"))) (tLst tNil))) (tSeq (tAsg pop (gName j)) u) tNext) n env N := fun B H σ b r D l => by
  obtain ⟨p, hp, rfl, e⟩ := r.deck hi
  obtain ⟨ne, m, k, cs, hd, hc, lc, m0, m1, k0, k1⟩ := r.wok p hp
  have get : ∀ {H : Hp}, H p.dk = some (.dK [(Sum.inr "cells", .ref p.cl), (Sum.inr p.kb, .int m), (Sum.inr "draws", .int k)]) → DGet H p.dk (.str "cells") (some (.ref p.cl)) := fun {H} hd => .inl ⟨_, Sum.inr "cells", .inl hd, rfl, val_cells.symm⟩
  refine ⟨_, e, p.dk, .ref p.cl, rfl, get hd, (by show 0 ≤ sizeLine; decide), fun q hq => ?_⟩
  have s : Same H (upd H q (.lst [])) := same_new hq _
  have r1 := r.same s
  have t1 : Dt ⟨none, c.wd.cm⟩ (fun _ => False) c.K (upd H q (.lst [])) (.ref p.cl) (.lst (cs.map Dv.int)) := .lst ⟨id, s _ _ hc⟩ (dta_ints cs)
  have t2 : Dt ⟨none, c.wd.cm⟩ (fun _ => False) c.K (upd H q (.lst [])) (.ref q) (.lst []) := .lst ⟨id, upd_same⟩ .nil
  refine .inl (.inr ⟨⟨none, c.wd.cm⟩, fun _ => False, _, _, t1, t2, plain_ints cs, rfl, shaped_ints cs, rfl, _, rfl, ?_⟩)
  rw [eqv_ints_nil]
  cases cs with
  | nil => exact iteF (l.nx B _ σ n env (Step.ext r (Ext0.same s)) b r1 h2)
  | cons z0 zs =>
    refine iteT ?_
    have nel : (z0 :: zs) ≠ [] := by simp
    have eL : (z0 :: zs).map V.int = ((z0 :: zs).dropLast.map V.int) ++ [V.int ((z0 :: zs).getLast nel)] := by
      rw [← List.map_singleton, ← List.map_append, List.dropLast_concat_getLast]
    have last : ((z0 :: zs).map V.int)[((z0 :: zs).map V.int).length - 1]? = some (V.int ((z0 :: zs).getLast nel)) := by
      rw [← List.getLast?_eq_getElem?, List.getLast?_map, List.getLast?_eq_some_getLast nel]
      rfl
    have kd : Dk c.wd p.cl := ⟨p, hp, .inr rfl⟩
    let H2 := upd (upd H q (.lst [])) p.cl (.lst (((z0 :: zs).map V.int).dropLast))
    have keep : ∀ a o, upd H q (.lst []) a = some o → ¬ Dk c.wd a → H2 a = some o := fun a o qa z => by
      show upd _ _ _ a = _
      rw [upd_ne (show a ≠ p.cl from fun y => z (y ▸ kd))]
      exact qa
    have w : WOk c.wd n H2 := fun q' hq' => by
      rw [hp] at hq'
      cases hq'
      refine ⟨ne, m, k, (z0 :: zs).dropLast, ?_, ?_, ?_, m0, m1, k0, k1⟩
      · show upd _ _ _ p.dk = _
        rw [upd_ne ne]
        exact s _ _ hd
      · show upd _ _ _ p.cl = _
        rw [upd_same, List.map_dropLast]
      · rw [List.length_dropLast]
        omega
    obtain ⟨r2, e2⟩ := r1.turnDeck keep w
    have fin : tSeq (tAsg (tC (.int ((z0 :: zs).getLast nel))) (gName j)) u D σ H2 := by
      have r3 := r2.set j (v := .int ((z0 :: zs).getLast nel)) (.int _)
      exact h1 _ B H2 _ b r3 D (l.later ((Step.ext r (Ext0.same s)).trans (Step.ext r1 e2)))
    rcases hpop with rfl | rfl
    · exact ⟨_, e, p.dk, .ref p.cl, rfl, get (s _ _ hd), .inl ⟨rfl, _, .inl (.inl (s _ _ hc))⟩, p.cl, _, _, rfl, rfl, s _ _ hc, last, fin⟩
    · exact ⟨_, e, p.dk, .ref p.cl, rfl, get (s _ _ hd), .inl ⟨rfl, _, .inl (.inl (s _ _ hc))⟩, p.cl, _, _, rfl, rfl, s _ _ hc, last, .inl ⟨_, rfl, fin⟩⟩
/-- deck["cells"].append(e) -/
theorem sd_push (hi : env[i]? = some (some (.fz (.deck kb)))) (h : ED c te n env fun n1 d => ∃ z : Int, d = .int z ∧ 1 ≤ n1 ∧ N.nx (n1 - 1) env) :
    SD c (tDrop (tBM c.K "list" rAppend (tDGet (tVar i) (tC (.str "cells"))) (tCons te tNil))) n env N := fun B H σ b r D l => by
  obtain ⟨p, hp, rfl, e⟩ := r.deck hi
  obtain ⟨ne, m, k, cs, hd, hc, lc, m0, m1, k0, k1⟩ := r.wok p hp
  refine ⟨_, e, p.dk, .ref p.cl, rfl, .inl ⟨_, Sum.inr "cells", .inl hd, rfl, val_cells.symm⟩, .inl ⟨rfl, _, .inl (.inl hc)⟩, ?_⟩
  refine h B H σ r _ fun v H1 n1 d r1 e1 h1 ⟨z, ed, hn, kk⟩ => ?_
  subst ed
  cases h1
  obtain ⟨ne, m, k, cs, hd, hc, lc, m0, m1, k0, k1⟩ := r1.wok p hp
  have kd : Dk c.wd p.cl := ⟨p, hp, .inr rfl⟩
  refine ⟨p.cl, _, _, rfl, rfl, hc, by rw [List.length_map]; exact Nat.lt_of_le_of_lt (by omega : cs.length ≤ 8000000) (by decide), ?_⟩
  let H2 := upd H1 p.cl (.lst (cs.map V.int ++ [V.int z]))
  have keep : ∀ a o, H1 a = some o → ¬ Dk c.wd a → H2 a = some o := fun a o qa z => by
    show upd _ _ _ a = _
    rw [upd_ne (show a ≠ p.cl from fun y => z (y ▸ kd))]
    exact qa
  have w : WOk c.wd (n1 - 1) H2 := fun q' hq' => by
    rw [hp] at hq'
    cases hq'
    refine ⟨ne, m, k, cs ++ [z], ?_, ?_, ?_, m0, m1, k0, by omega⟩
    · show upd _ _ _ p.dk = _
      rw [upd_ne ne]
      exact hd
    · show upd _ _ _ p.cl = _
      rw [upd_same, List.map_append]
      rfl
    · rw [List.length_append, List.length_singleton]
      omega
  obtain ⟨r2, e2⟩ := r1.turnDeck keep w
  exact l.nx B H2 σ (n1 - 1) env ((Step.ext r e1).trans (Step.ext r1 e2)) b r2 kk
end
/-- no promise at all -/
theorem fnG_no {P : Program} {w : World} {K : PySem.W.Frag} {mg : Str → Option Value} {base : Heap} {k : Nat} {f : Addr} {fd : FuncData} {ps : List Str} {C : Ct} (h : ∀ n ds R, ¬ C n ds R) : FnG P w K mg base CX0 k f fd ps (spD K mg C) :=
  ⟨fun _ _ _ _ ⟨_, _, _, _, _, _, _, _, _, _, hC, _⟩ => (h _ _ _ hC).elim, fun _ _ _ _ _ _ _ _ _ _ _ _ _ _ ⟨_, _, _, _, _, _, _, _, _, _, hC, _⟩ => (h _ _ _ hC).elim⟩
end DL

set_option Elab.async false
set_option linter.all false
set_option maxRecDepth 100000
set_option maxHeartbeats 2000000
/-! D17: comprehensions and for loops, item by item. -/
namespace DL
open PySem PySem.Spec L2
/-- a comprehension over these items -/
def LcU (c : Cn) (g : TG) (vs : List Nat) (tt : TT) (te : TE) (env : DL.Env) : List Dv → Nat → List Dv → (Nat → List Dv → Prop) → Prop
  | [], n, acc, K => K n acc
  | d :: ds, n, acc, K => GD c g vs d (wipeD env vs) fun env2 => TD c tt n env2 fun n2 b => if b = true then ED c te n2 env2 fun n3 y => LcU c g vs tt te env ds n3 (acc ++ [y]) K else LcU c g vs tt te env ds n2 acc K
/-- a for loop over these items -/
def ForU (c : Cn) (g : TG) (vs : List Nat) (tb : TS) (N : DN) : List Dv → Nat → DL.Env → Prop
  | [], n, env => N.nx n env
  | d :: ds, n, env => GD c g vs d env fun env2 => SD c tb n env2 { nx := fun n e => ForU c g vs tb N ds n e, rt := N.rt, bk := N.nx, ct := fun n e => ForU c g vs tb N ds n e }
section
variable {c : Cn} {n : Nat} {env : DL.Env} {N : DN} {te : TE} {tt : TT} {tb : TS} {wi : TI} {g : TG} {vs : List Nat}
theorem td_mono {R R' : Nat → Bool → Prop} (h : TD c tt n env R) (k : ∀ n b, R n b → R' n b) : TD c tt n env R' := fun B H σ r Q q => h B H σ r Q fun b H' n' x y z => q b H' n' x y (k _ _ z)
theorem gd_mono {d : Dv} {R R' : DL.Env → Prop} (h : GD c g vs d env R) (k : ∀ e, R e → R' e) : GD c g vs d env R' := fun B n H σ v r hd Q q => h B n H σ v r hd Q fun σ2 e2 x y z => q σ2 e2 x y (k _ z)
theorem ed_lcU {R : Nat → Dv → Prop} (h : WD c wi n env fun n0 items => items.length ≤ sizeLine ∧ LcU c g vs tt te env items n0 [] fun n1 ds => R n1 (.lst ds)) : ED c (tLc wi g tt te vs) n env R := by
  refine ed_lc (g := g) (vs := vs) fun B H σ r k q => h B H σ r k fun J H' n' items r1 e1 w1 ⟨hl, hu⟩ => q J H' n' items r1 e1 w1 ?_
  refine ⟨fun i n1 acc => acc.length ≤ i ∧ LcU c g vs tt te env (items.drop i) n1 acc fun n1 ds => R n1 (.lst ds), ⟨Nat.le_refl _, by simpa using hu⟩, fun i n1 acc d hi ⟨ha, hj⟩ => ?_, fun n1 acc ⟨ha, hj⟩ => ?_⟩
  · obtain ⟨hlt, hd⟩ := List.getElem?_eq_some_iff.mp hi
    rw [List.drop_eq_getElem_cons hlt, hd] at hj
    refine gd_mono hj fun e2 h2 => td_mono h2 fun n2 b h3 => ?_
    cases b with
    | true => exact iteT (ed_mono (show ED c te n2 e2 _ from h3) fun n3 y h4 => ⟨by omega, by rw [List.length_append]; exact Nat.add_le_add_right ha 1, h4⟩)
    | false => exact iteF ⟨by omega, h3⟩
  · rw [List.drop_length] at hj
    exact hj
theorem sd_monoN {N N' : DN} {t : TS} (h : SD c t n env N) (a : ∀ n e, N.nx n e → N'.nx n e) (b : ∀ n d, N.rt n d → N'.rt n d) (d : ∀ n e, N.bk n e → N'.bk n e) (e : ∀ n e, N.ct n e → N'.ct n e) : SD c t n env N' := sd_mono h a b d e
theorem sd_forU (h : WD c wi n env fun n0 items => ForU c g vs tb N items n0 env) : SD c (tFor wi g tb) n env N := by
  refine sd_for (g := g) (vs := vs) fun B H σ r k q => h B H σ r k fun J H' n' items r1 e1 w1 hu => q J H' n' items r1 e1 w1 ?_
  refine ⟨fun i n1 e1 => ForU c g vs tb N (items.drop i) n1 e1, by simpa using hu, fun i n1 e1 d hi hj => ?_, fun n1 e1 hj => ?_⟩
  · obtain ⟨hlt, hd⟩ := List.getElem?_eq_some_iff.mp hi
    have hj : ForU c g vs tb N (items.drop i) n1 e1 := hj
    rw [List.drop_eq_getElem_cons hlt, hd] at hj
    exact hj
  · have hj : ForU c g vs tb N (items.drop items.length) n1 e1 := hj
    rw [List.drop_length] at hj
    exact hj
/-- each item by itself, no draw -/
theorem lcU_map {items : List Dv} {K : Nat → List Dv → Prop} {b : Dv → Bool} {f : Dv → Dv} {acc : List Dv} (h : ∀ d ∈ items, GD c g vs d (wipeD env vs) fun env2 => TD c tt n env2 fun n2 b' => n2 = n ∧ b' = b d ∧ (b d = true → ED c te n env2 fun n3 y => n3 = n ∧ y = f d)) (k : K n (acc ++ (items.filter b).map f)) :
    LcU c g vs tt te env items n acc K := by
  induction items generalizing acc with
  | nil => simpa [LcU] using k
  | cons d ds ih =>
    refine gd_mono (h d List.mem_cons_self) fun e2 h2 => td_mono h2 fun n2 b' ⟨e, eb, h3⟩ => ?_
    subst e
    have ih' : ∀ acc, K n2 (acc ++ (ds.filter b).map f) → LcU c g vs tt te env ds n2 acc K := fun acc k => ih (fun d hd => h d (List.mem_cons_of_mem _ hd)) k
    by_cases q : b d = true
    · rw [eb, q]
      refine iteT (ed_mono (h3 q) fun n3 y ⟨e3, e4⟩ => ?_)
      subst e3
      subst e4
      refine ih' _ ?_
      rw [List.filter_cons_of_pos q, List.map_cons] at k
      simpa using k
    · have q' : b d = false := by simpa using q
      rw [eb, q']
      refine iteF (ih' _ ?_)
      rw [List.filter_cons_of_neg q] at k
      exact k
theorem lcU_nil {acc : List Dv} {K : Nat → List Dv → Prop} (k : K n acc) : LcU c g vs tt te env [] n acc K := k
theorem lcU_cons {acc ds : List Dv} {d : Dv} {K : Nat → List Dv → Prop} (k : GD c g vs d (wipeD env vs) fun env2 => TD c tt n env2 fun n2 b => if b = true then ED c te n2 env2 fun n3 y => LcU c g vs tt te env ds n3 (acc ++ [y]) K else LcU c g vs tt te env ds n2 acc K) : LcU c g vs tt te env (d :: ds) n acc K := k
theorem forU_nil (k : N.nx n env) : ForU c g vs tb N [] n env := k
theorem forU_cons {ds : List Dv} {d : Dv} (k : GD c g vs d env fun env2 => SD c tb n env2 { nx := fun n e => ForU c g vs tb N ds n e, rt := N.rt, bk := N.nx, ct := fun n e => ForU c g vs tb N ds n e }) : ForU c g vs tb N (d :: ds) n env := k
theorem wd_strU {R : Nat → List Dv → Prop} (h : ED c te n env fun n1 d => ∃ x, d = .str x ∧ R n1 (signs x)) : WD c (iStr te) n env R := wd_str h
end
end DL

set_option Elab.async false
set_option linter.all false
set_option maxRecDepth 100000
set_option maxHeartbeats 2000000
/-! D18: more words for walking trees; forgetful ones. -/
namespace DL
open PySem PySem.Spec L2
section
variable {c : Cn} {n : Nat} {env : DL.Env} {R : Dv → Prop}
theorem par2_mk {d e : Dv} {A : Dv → Dv → Prop} (h : A d e) : ∃ d' e', [d, e] = [d', e'] ∧ A d' e' := ⟨d, e, rfl, h⟩
theorem par3_mk {d e f : Dv} {A : Dv → Dv → Dv → Prop} (h : A d e f) : ∃ d' e' f', [d, e, f] = [d', e', f'] ∧ A d' e' f' := ⟨d, e, f, rfl, h⟩
/-- what is left of a division, forgotten but for its bounds -/
theorem om_any {i j : Int} (l : 0 < j) (k : ∀ r : Int, 0 ≤ r → r < j → R (.int r)) : OD c (rI (fun _ j => 0 < j) fun i j => .int (i % j)) (.int i) (.int j) R :=
  od_mod l (k _ (Int.emod_nonneg _ (by omega)) (Int.emod_lt_of_pos _ l))
theorem om_mul {i j : Int} (l : CMul i j) (k : ∀ r : Int, r = i * j → R (.int r)) : OD c rMulU (.int i) (.int j) R := od_mul l (k _ rfl)
theorem cm_r {i j : Int} (h1 : -(2 ^ 64) < j) (h2 : j < 2 ^ 64) : CMul i j := .inr ⟨h1, h2⟩
theorem ex1 {d : Dv} {A : Dv → Prop} (h : A d) : ∃ d', d = d' ∧ A d' := ⟨d, rfl, h⟩
theorem of_div {i j : Int} (h1 : 0 < j) (h2 : j < 1073741824) (k : R (.int (i / j))) : OD c (rI CDiv fun i j => .int (i / j)) (.int i) (.int j) R := od_fdiv ⟨h1, h2⟩ k
theorem op_lit {i j : Int} (h1 : 0 ≤ j ∧ j ≤ 1000000 ∧ i.natAbs < 2 ^ 64) (k : R (.int (i ^ j.toNat))) : OD c (rI CPow fun i j => .int (i ^ j.toNat)) (.int i) (.int j) R := od_pow h1 k
theorem exI {i : Int} {m : Nat} {A : Prop} (h : 1 ≤ m) (k : A) : ∃ z, Dv.int i = Dv.int z ∧ 1 ≤ m ∧ A := ⟨i, rfl, h, k⟩
theorem sd_retL {te : TE} {N : DN} (h : ED c te n env fun n1 d => ∃ m, m ≤ n1 ∧ N.rt m d) : SD c (tRet te) n env N := sd_ret (fun B H σ r Q q => h B H σ r Q fun v H' n' d r1 e1 h1 ⟨m, l, k⟩ => q v H' m d (r1.less l) e1 h1 k)
theorem pd_int {i : Int} {A : Int → Prop} (h : A i) : ∃ j, Dv.int i = Dv.int j ∧ A j := ⟨i, rfl, h⟩
theorem sl_scr {ns : List Int} {lo hi : Option Int} (h : R (.lst ((ns.drop (HT.sIx ns.length 0 lo)).take (HT.sIx ns.length ns.length hi - HT.sIx ns.length 0 lo) |>.map Dv.int))) : SlD (.scr ns) lo hi R := h
theorem sl_lst {ds : List Dv} {lo hi : Option Int} (h : R (.lst (cutD ds lo hi))) : SlD (.lst ds) lo hi R := h
theorem sl_tup {ds : List Dv} {lo hi : Option Int} (h : R (.tup (cutD ds lo hi))) : SlD (.tup ds) lo hi R := h
theorem sl_str {z : Str} {lo hi : Option Int} (l : z.length ≤ sizeLine) (h : R (.str (cutS z lo hi))) : SlD (.str z) lo hi R := ⟨l, h⟩
theorem rv_lst {ds : List Dv} (h : R (.lst ds.reverse)) : revD (.lst ds) R := h
theorem rv_tup {ds : List Dv} (h : R (.tup ds.reverse)) : revD (.tup ds) R := h
theorem rv_str {z : Str} (l : z.length ≤ sizeLine) (h : R (.str (revS z))) : revD (.str z) R := ⟨l, h⟩
theorem cd_listL {ds : List Dv} (k : R (.lst ds)) : CD c (rListA c.K) [.lst ds] R := cd_listA rfl k
theorem cd_listT {ds : List Dv} (k : R (.lst ds)) : CD c (rListA c.K) [.tup ds] R := cd_listA rfl k
theorem key_s {x : Str} {A : Key → Prop} (h : A (.inr x)) : ∃ k, keyD (.str x) = some k ∧ A k := ⟨_, rfl, h⟩
theorem key_i {i : Int} {A : Key → Prop} (h : A (.inl i)) : ∃ k, keyD (.int i) = some k ∧ A k := ⟨_, rfl, h⟩
theorem at_nat {α : Type} {xs : List α} {j : Int} (h0 : 0 ≤ j) (h : j.toNat < xs.length) : atI xs j = some xs[j.toNat] := by
  unfold atI ixN
  rw [if_pos (by omega), if_pos (by omega)]
  show xs[j.toNat]? = _
  rw [List.getElem?_eq_getElem h]
theorem andN {m : Nat} {A : Prop} (h : 1 ≤ m) (k : A) : 1 ≤ m ∧ A := ⟨h, k⟩
theorem forU_inv {g : TG} {vs : List Nat} {tb : TS} {N : DN} {items : List Dv} (J : Nat → DL.Env → Prop) (h0 : J n env) (step : ∀ d ∈ items, ∀ n env, J n env → GD c g vs d env fun env2 => SD c tb n env2 { nx := J, rt := N.rt, bk := N.nx, ct := J }) (fin : ∀ n env, J n env → N.nx n env) : ForU c g vs tb N items n env := by
  induction items generalizing n env with
  | nil => exact fin _ _ h0
  | cons d ds ih =>
    have ih' : ∀ n env, J n env → ForU c g vs tb N ds n env := fun n e h => ih h fun d hd => step d (List.mem_cons_of_mem _ hd)
    exact gd_mono (step d List.mem_cons_self n env h0) fun e2 h2 => sd_mono h2 (fun n e h => ih' n e h) (fun _ _ h => h) (fun _ _ h => h) (fun n e h => ih' n e h)
theorem lcU_inv {g : TG} {vs : List Nat} {tt : TT} {te : TE} {items : List Dv} {acc : List Dv} {K : Nat → List Dv → Prop} (J : Nat → List Dv → Prop) (h0 : J n acc) (step : ∀ d ∈ items, ∀ n acc, J n acc → GD c g vs d (wipeD env vs) fun env2 => TD c tt n env2 fun n2 b => if b = true then ED c te n2 env2 fun n3 y => J n3 (acc ++ [y]) else J n2 acc) (fin : ∀ n acc, J n acc → K n acc) : LcU c g vs tt te env items n acc K := by
  induction items generalizing n acc with
  | nil => exact fin _ _ h0
  | cons d ds ih =>
    have ih' : ∀ n acc, J n acc → LcU c g vs tt te env ds n acc K := fun n e h => ih h fun d hd => step d (List.mem_cons_of_mem _ hd)
    refine gd_mono (step d List.mem_cons_self n acc h0) fun e2 h2 => td_mono h2 fun n2 b h3 => ?_
    cases b with
    | true => exact iteT (ed_mono (show ED c te n2 e2 _ from h3) fun n3 y h4 => ih' _ _ h4)
    | false => exact iteF (ih' _ _ h3)
theorem ov_bb {a b : Bool} (k : R (.bl (a == b))) : OD c (rEqV c.K false) (.bl a) (.bl b) R := ov_b (by rw [show decide (a = b) = (a == b) from by cases a <;> cases b <;> rfl]; exact k)
theorem nv_bb {a b : Bool} (k : R (.bl (a != b))) : OD c (rEqV c.K true) (.bl a) (.bl b) R := nv_b (by rw [show (!decide (a = b)) = (a != b) from by cases a <;> cases b <;> rfl]; exact k)
/-- isinstance(x, T), told -/
def isO (T : String) (d : Dv) : Option Bool := if (tyD d).isSome = true then some (isK T d) else none
theorem is_at {T : String} {d : Dv} {b : Bool} {A : Dv → Prop} (h : isO T d = some b) (k : A (.bl b)) : (tyD d).isSome = true ∧ A (.bl (isK T d)) := by
  unfold isO at h
  by_cases q : (tyD d).isSome = true
  · rw [if_pos q] at h
    cases h
    exact ⟨q, k⟩
  · rw [if_neg q] at h
    cases h
theorem ite_t {A B : Prop} (h : A) : if true = true then A else B := iteT h
theorem ite_f {A B : Prop} (h : B) : if false = true then A else B := iteF h
theorem ite_nt {A B : Prop} (h : B) : if (!true) = true then A else B := iteF h
theorem ite_nf {A B : Prop} (h : A) : if (!false) = true then A else B := iteT h
theorem dget_mk {es : List (Key × Dv)} {dk v : Dv} {k : Key} {A : Dv → Prop} (h1 : keyD dk = some k) (h2 : lkD es k = some v) (h : A v) : ∃ es' k' v', Dv.dic es = .dic es' ∧ keyD dk = some k' ∧ lkD es' k' = some v' ∧ A v' := ⟨es, k, v, rfl, h1, h2, h⟩
theorem disp_mk {es es' : List (Key × Dv)} {A : List (Key × Dv) → Prop} (l : es.length ≤ 15) (e : mergeD [] es = es') (h : A es') : es.length ≤ 15 ∧ ∃ es', mergeD [] es = es' ∧ A es' := ⟨l, es', e, h⟩
theorem ed_disp2 {trs : List (TE × TE)} {R : Nat → Dv → Prop} (h : PPD c trs n env fun n1 es => es.length ≤ 15 ∧ ∃ es', mergeD [] es = es' ∧ R n1 (.dic es')) : ED c (tDisp trs) n env R :=
  ed_disp fun B H σ r Q q => h B H σ r Q fun kvs H' n' es r1 e1 h1 ⟨l, es', e, k⟩ => q kvs H' n' es r1 e1 h1 ⟨l, by rw [e]; exact k⟩
theorem ex_lst {ds : List Dv} {A : List Dv → Prop} (h : A ds) : ∃ ds', Dv.lst ds = .lst ds' ∧ A ds' := ⟨ds, rfl, h⟩
theorem ex_tup {ds : List Dv} {A : List Dv → Prop} (h : A ds) : ∃ ds', Dv.tup ds = .tup ds' ∧ A ds' := ⟨ds, rfl, h⟩
theorem ex_str {x : Str} {A : Str → Prop} (h : A x) : ∃ y, Dv.str x = .str y ∧ A y := ⟨x, rfl, h⟩
theorem not_not_b {b : Bool} {A : Bool → Prop} (h : A b) : A (!!b) := by rw [Bool.not_not]; exact h
theorem disp_same {es : List (Key × Dv)} {A : List (Key × Dv) → Prop} (l : es.length ≤ 15) (e : mergeD [] es = es) (h : A es) : es.length ≤ 15 ∧ ∃ es', mergeD [] es = es' ∧ A es' := ⟨l, es, e, h⟩
def strsOf : List Dv → Option (List Str)
  | [] => some []
  | .str x :: ds => match strsOf ds with
    | some l => some (x :: l)
    | none => none
  | _ => none
theorem strs_map : ∀ {ds : List Dv} {ys : List Str}, strsOf ds = some ys → ds = ys.map Dv.str
  | [], ys, h => by cases h; rfl
  | .str x :: ds, ys, h => by
    unfold strsOf at h
    split at h
    · rename_i l hl
      cases h
      rw [strs_map hl, List.map_cons]
    · cases h
  | .non :: _, _, h | .bl _ :: _, _, h | .int _ :: _, _, h | .tup _ :: _, _, h | .lst _ :: _, _, h | .dic _ :: _, _, h | .ins _ _ :: _, _, h | .deck _ :: _, _, h | .scr _ :: _, _, h => by simp [strsOf] at h
theorem ed_join2 {ta tb : TE} {R : Nat → Dv → Prop} (h : ED c ta n env fun n1 d => ∃ a, d = .str a ∧ ED c tb n1 env fun n2 e => ∃ ys z, seqD e = some (ys.map Dv.str) ∧ (ys.map (·.length)).sum + ys.length * a.length ≤ 16777216 ∧ Txt.join a ys = z ∧ R n2 (.str z)) : ED c (tM1 (rJoin c.K) ta tb) n env R :=
  ed_join (ed_mono h fun n1 d ⟨a, e, k⟩ => ⟨a, e, ed_mono k fun n2 e2 ⟨ys, z, h1, h2, h3, h4⟩ => ⟨ys, h1, h2, by rw [h3]; exact h4⟩⟩)
theorem join_mk {a z : Str} {ds : List Dv} {ys : List Str} {A : Str → Prop} (h : strsOf ds = some ys) (l : (ys.map (·.length)).sum + ys.length * a.length ≤ 16777216) (e : Txt.join a ys = z) (k : A z) : ∃ ys z, seqD (.lst ds) = some (ys.map Dv.str) ∧ (ys.map (·.length)).sum + ys.length * a.length ≤ 16777216 ∧ Txt.join a ys = z ∧ A z := ⟨ys, z, by rw [strs_map h]; rfl, l, e, k⟩
theorem ed_is2 {te : TE} {T : String} {R : Nat → Dv → Prop} (hT : T ∈ ["bool", "int", "str", "tuple", "list", "dict"]) (h : ED c te n env fun n1 d => ∃ b, isO T d = some b ∧ R n1 (.bl b)) : ED c (tCB (rIsi c.K) (tCons te (tCons (tC (.ty T)) tNil))) n env R :=
  ed_is hT (ed_mono h fun n d ⟨b, h1, h2⟩ => is_at h1 h2)
theorem is_mk {T : String} {d : Dv} {b : Bool} {A : Bool → Prop} (h : isO T d = some b) (k : A b) : ∃ b, isO T d = some b ∧ A b := ⟨b, h, k⟩
theorem sd_forA {wi : TI} {g : TG} {tb : TS} {N : DN} (h : WD c wi n env fun n0 items => ForU c g (List.range 64) tb N items n0 env) : SD c (tFor wi g tb) n env N := sd_forU h
theorem sd_asgA {te : TE} {g : TG} {N : DN} (h : ED c te n env fun n1 d => GD c g (List.range 64) d env (N.nx n1)) : SD c (tAsg te g) n env N := sd_asgG h
theorem tru_b {b : Bool} {A : Bool → Prop} (h : A b) : ∃ b', tru (.bl b) = some b' ∧ A b' := ⟨b, rfl, h⟩
theorem tru_i {i : Int} {A : Bool → Prop} (h : A (i != 0)) : ∃ b', tru (.int i) = some b' ∧ A b' := ⟨_, rfl, h⟩
theorem tru_l {ds : List Dv} {A : Bool → Prop} (h : A (!ds.isEmpty)) : ∃ b', tru (.lst ds) = some b' ∧ A b' := ⟨_, rfl, h⟩
theorem tru_t {ds : List Dv} {A : Bool → Prop} (h : A (!ds.isEmpty)) : ∃ b', tru (.tup ds) = some b' ∧ A b' := ⟨_, rfl, h⟩
theorem tru_n {A : Bool → Prop} (h : A false) : ∃ b', tru .non = some b' ∧ A b' := ⟨_, rfl, h⟩
theorem gd_unlU {k : Nat} {gs : TGs} {vs : List Nat} {ds : List Dv} {R : DL.Env → Prop} (hl : ds.length = k) (h : GDs c gs vs ds env R) : GD c (gUnl c.K k gs) vs (.lst ds) env R := gd_unl hl h
end
/-- a comprehension over these items, its list in the end -/
def LcV (c : Cn) (g : TG) (vs : List Nat) (tt : TT) (te : TE) (env : DL.Env) : List Dv → Nat → (Nat → List Dv → Prop) → Prop
  | [], n, K => K n []
  | d :: ds, n, K => GD c g vs d (wipeD env vs) fun env2 => TD c tt n env2 fun n2 b => if b = true then ED c te n2 env2 fun n3 y => LcV c g vs tt te env ds n3 fun n l => K n (y :: l) else LcV c g vs tt te env ds n2 K
section
variable {c : Cn} {n : Nat} {env : DL.Env} {te : TE} {tt : TT} {wi : TI} {g : TG} {vs : List Nat}
theorem lcV_mono : ∀ (items : List Dv) (n : Nat) (K K' : Nat → List Dv → Prop), LcV c g vs tt te env items n K → (∀ n l, l.length ≤ items.length → K n l → K' n l) → LcV c g vs tt te env items n K'
  | [], n, K, K', h, k => k _ _ (Nat.le_refl _) h
  | d :: ds, n, K, K', h, k => by
    refine gd_mono h fun e2 h2 => td_mono h2 fun n2 b h3 => ?_
    cases b with
    | true => exact iteT (ed_mono (show ED c te n2 e2 _ from h3) fun n3 y h4 => lcV_mono ds n3 _ _ h4 fun n l hl hk => k n (y :: l) (by simpa using hl) hk)
    | false => exact iteF (lcV_mono ds n2 _ _ h3 fun n l hl hk => k n l (by simp only [List.length_cons]; omega) hk)
theorem lcV_U : ∀ (items : List Dv) (n : Nat) (acc : List Dv) (K : Nat → List Dv → Prop), LcV c g vs tt te env items n (fun n l => K n (acc ++ l)) → LcU c g vs tt te env items n acc K
  | [], n, acc, K, h => by
    have h : K n (acc ++ []) := h
    rw [List.append_nil] at h
    exact h
  | d :: ds, n, acc, K, h => by
    refine gd_mono h fun e2 h2 => td_mono h2 fun n2 b h3 => ?_
    cases b with
    | true => exact iteT (ed_mono (show ED c te n2 e2 _ from h3) fun n3 y h4 => lcV_U ds n3 _ K (lcV_mono _ _ _ _ h4 fun n l _ hk => by rw [List.append_assoc]; exact hk))
    | false => exact iteF (lcV_U ds n2 acc K h3)
theorem ed_lcV {R : Nat → Dv → Prop} (h : WD c wi n env fun n0 items => items.length ≤ sizeLine ∧ LcV c g vs tt te env items n0 fun n1 ds => R n1 (.lst ds)) : ED c (tLc wi g tt te vs) n env R :=
  ed_lcU fun B H σ r k q => h B H σ r k fun J H' n' items r1 e1 w1 ⟨hl, hu⟩ => q J H' n' items r1 e1 w1 ⟨hl, lcV_U _ _ _ _ hu⟩
theorem lcV_nil {K : Nat → List Dv → Prop} (k : K n []) : LcV c g vs tt te env [] n K := k
theorem lcV_cons {ds : List Dv} {d : Dv} {K : Nat → List Dv → Prop} (k : GD c g vs d (wipeD env vs) fun env2 => TD c tt n env2 fun n2 b => if b = true then ED c te n2 env2 fun n3 y => LcV c g vs tt te env ds n3 fun n l => K n (y :: l) else LcV c g vs tt te env ds n2 K) : LcV c g vs tt te env (d :: ds) n K := k
/-- each item by itself, no draw -/
theorem lcV_map {items : List Dv} {K : Nat → List Dv → Prop} (b : Dv → Bool) (f : Dv → Dv) (h : ∀ d ∈ items, GD c g vs d (wipeD env vs) fun env2 => TD c tt n env2 fun n2 b' => n2 = n ∧ b' = b d ∧ (b d = true → ED c te n env2 fun n3 y => n3 = n ∧ y = f d)) (k : K n ((items.filter b).map f)) :
    LcV c g vs tt te env items n K := by
  induction items generalizing K with
  | nil => exact k
  | cons d ds ih =>
    refine gd_mono (h d List.mem_cons_self) fun e2 h2 => td_mono h2 fun n2 b' ⟨e, eb, h3⟩ => ?_
    subst e
    have ih' : ∀ K : Nat → List Dv → Prop, K n2 ((ds.filter b).map f) → LcV c g vs tt te env ds n2 K := fun K k => ih (fun d hd => h d (List.mem_cons_of_mem _ hd)) k
    by_cases q : b d = true
    · rw [eb, q]
      refine iteT (ed_mono (h3 q) fun n3 y ⟨e3, e4⟩ => ?_)
      subst e3
      subst e4
      rw [List.filter_cons_of_pos q, List.map_cons] at k
      exact ih' _ k
    · have q' : b d = false := by simpa using q
      rw [eb, q']
      rw [List.filter_cons_of_neg q] at k
      exact iteF (ih' _ k)
/-- what each gives, and what stays -/
theorem lcV_inv {items : List Dv} {K : Nat → List Dv → Prop} (J : Nat → Prop) (P : Dv → Prop) (h0 : J n) (step : ∀ d ∈ items, ∀ n, J n → GD c g vs d (wipeD env vs) fun env2 => TD c tt n env2 fun n2 b => if b = true then ED c te n2 env2 fun n3 y => J n3 ∧ P y else J n2)
    (fin : ∀ n l, J n → (∀ y ∈ l, P y) → l.length ≤ items.length → K n l) : LcV c g vs tt te env items n K := by
  induction items generalizing n K with
  | nil => exact fin _ _ h0 (fun _ z => nomatch z) (Nat.le_refl _)
  | cons d ds ih =>
    have ih' : ∀ n (K : Nat → List Dv → Prop), J n → (∀ n l, J n → (∀ y ∈ l, P y) → l.length ≤ ds.length → K n l) → LcV c g vs tt te env ds n K := fun n K h f => ih h (fun d hd => step d (List.mem_cons_of_mem _ hd)) f
    refine gd_mono (step d List.mem_cons_self n h0) fun e2 h2 => td_mono h2 fun n2 b h3 => ?_
    cases b with
    | true => exact iteT (ed_mono (show ED c te n2 e2 _ from h3) fun n3 y ⟨h4, h5⟩ => ih' _ _ h4 fun n l hj hp hl => fin n (y :: l) hj (fun z hz => (List.mem_cons.mp hz).elim (fun e => e ▸ h5) (hp z)) (by simpa using hl))
    | false => exact iteF (ih' _ _ h3 fun n l hj hp hl => fin n l hj hp (by simp only [List.length_cons]; omega))
def tk (b : Bool) (d : Dv) : List Dv := if b = true then [d] else []
/-- the item's part is kept or not: no branch -/
theorem lcV_consM {ds : List Dv} {d δ : Dv} {β : Bool} {K : Nat → List Dv → Prop} (k : GD c g vs d (wipeD env vs) fun env2 => TD c tt n env2 fun n2 b => n2 = n ∧ b = β ∧ ED c te n env2 fun n3 y => n3 = n ∧ y = δ) (k2 : LcV c g vs tt te env ds n fun n l => K n (tk β δ ++ l)) : LcV c g vs tt te env (d :: ds) n K := by
  refine gd_mono k fun e2 h2 => td_mono h2 fun n2 b ⟨e1, eb, h3⟩ => ?_
  subst e1
  subst eb
  cases b with
  | true => exact iteT (ed_mono h3 fun n3 y ⟨e3, ey⟩ => by subst e3; subst ey; exact k2)
  | false => exact iteF k2
theorem same1 {m : Nat} {b : Bool} {A : Prop} (h : A) : m = m ∧ b = b ∧ A := ⟨rfl, rfl, h⟩
theorem wd_rangeL {ta : TA} {R : Nat → List Dv → Prop} (h : AD c ta n env fun n1 ds => ∃ j : Int, ds = [.int j] ∧ -(2 ^ 62) ≤ j ∧ j < 2 ^ 62 ∧ ∃ items, rints 0 j.toNat = items ∧ R n1 items) : WD c (iRng1 ta) n env R :=
  wd_range1 fun B H σ r Q q => h B H σ r Q fun vs H' n' ds r1 e1 h1 ⟨j, a, b, d, items, e, k⟩ => q vs H' n' ds r1 e1 h1 ⟨j, a, b, d, by rw [e]; exact k⟩
theorem rng_mk {j : Int} {items : List Dv} {A : List Dv → Prop} (h : -(2 ^ 62) ≤ j ∧ j < 2 ^ 62) (e : rints 0 j.toNat = items) (k : A items) : ∃ j' : Int, [Dv.int j] = [.int j'] ∧ -(2 ^ 62) ≤ j' ∧ j' < 2 ^ 62 ∧ ∃ items, rints 0 j'.toNat = items ∧ A items := ⟨j, rfl, h.1, h.2, items, e, k⟩
theorem ix_s {R : Dv → Prop} {z : Str} {i : Int} {a : Nat} (l : z.length ≤ 100000) (e : L2.atI z.cps.toList i = some a) (k : R (.str ⟨#[a]⟩)) : OD c (rIx c.K) (.str z) (.int i) R := od_ixs (Nat.le_trans l (by decide)) e k
theorem lcV_consY {ds : List Dv} {d : Dv} {K : Nat → List Dv → Prop} (k : GD c g vs d (wipeD env vs) fun env2 => ED c te n env2 fun n3 y => LcV c g vs tYes te env ds n3 fun n l => K n (y :: l)) : LcV c g vs tYes te env (d :: ds) n K := lcV_cons (gd_mono k fun e2 h => td_yes (iteT h))
end
/-! ### the locals, written out -/
section
variable {c : Cn} {n : Nat} {env : DL.Env} {N : DN} {te : TE}
theorem env_mk {i : Nat} {x : Option Dx} {e' : DL.Env} {A : DL.Env → Prop} (h : env.set i x = e') (k : A e') : ∃ e', env.set i x = e' ∧ A e' := ⟨e', h, k⟩
theorem se_0 {a x : Option Dx} {l : DL.Env} : List.set (a :: l) 0 x = x :: l := rfl
theorem se_s {a x : Option Dx} {l l' : DL.Env} {i : Nat} (h : List.set l i x = l') : List.set (a :: l) (i + 1) x = a :: l' := by rw [← h]; rfl
theorem sd_asgN {i : Nat} (h : ED c te n env fun n1 d => ∃ e', env.set i (some (.fz d)) = e' ∧ N.nx n1 e') : SD c (tAsg te (gName i)) n env N := sd_asg (ed_mono h fun n1 d ⟨e', h1, h2⟩ => by rw [h1]; exact h2)
theorem sd_parN {i j : Nat} {t : TA} (h : AD c t n env fun n1 ds => ∃ d e, ds = [d, e] ∧ ∃ e1, env.set i (some (.fz d)) = e1 ∧ ∃ e2, e1.set j (some (.fz e)) = e2 ∧ N.nx n1 e2) : SD c (tPar i j t) n env N :=
  sd_par fun B H σ r Q q => h B H σ r Q fun vs H' n' ds r1 e1 h1 ⟨d, e, ed, a1, h2, a2, h3, k⟩ => q vs H' n' ds r1 e1 h1 ⟨d, e, ed, by rw [h2, h3]; exact k⟩
theorem sd_par3N {i j m : Nat} {t : TA} (h : AD c t n env fun n1 ds => ∃ d e f, ds = [d, e, f] ∧ ∃ e1, env.set i (some (.fz d)) = e1 ∧ ∃ e2, e1.set j (some (.fz e)) = e2 ∧ ∃ e3, e2.set m (some (.fz f)) = e3 ∧ N.nx n1 e3) : SD c (tPar3 i j m t) n env N :=
  sd_par3 fun B H σ r Q q => h B H σ r Q fun vs H' n' ds r1 e1 h1 ⟨d, e, f, ed, a1, h2, a2, h3, a3, h4, k⟩ => q vs H' n' ds r1 e1 h1 ⟨d, e, f, ed, by rw [h2, h3, h4]; exact k⟩
theorem gd_nameN {i : Nat} {vs : List Nat} {d : Dv} {R : DL.Env → Prop} (hi : i ∈ vs) (k : ∃ e', env.set i (some (.fz d)) = e' ∧ R e') : GD c (gName i) vs d env R := gd_name hi (by obtain ⟨e', h1, h2⟩ := k; rw [h1]; exact h2)
end
section
variable {c : Cn} {n : Nat} {env : DL.Env} {N : DN} {i : Nat} {kb : Str}
theorem sd_cellsN {j : Nat} {u : TS} (pop : TE) (hpop : pop = tBM0 c.K "list" rPop (tDGet (tVar i) (tC (.str "cells"))) ∨ pop = tCB (fun xs H Q => (∃ i, xs = [.int i] ∧ Q (.int i) H) ∨ ∃ k, xs = [.bl k] ∧ Q (.int (if k then 1 else 0)) H) (tCons (tBM0 c.K "list" rPop (tDGet (tVar i) (tC (.str "cells")))) tNil))
    (hi : env[i]? = some (some (.fz (.deck kb)))) (h1 : ∀ z : Int, ∃ e', env.set j (some (.fz (.int z))) = e' ∧ SD c u n e' N) (h2 : N.nx n env) :
    SD c (tIfS (tTest (tOp (rEqV c.K true) (tDGet (tVar i) (tC (.str "cells"))) (tLst tNil))) (tSeq (tAsg pop (gName j)) u) tNext) n env N := sd_cells pop hpop hi (fun z => by obtain ⟨e', a, b⟩ := h1 z; rw [a]; exact b) h2
end
/-- a comprehension over these items; env: the locals, its own forgotten -/
def LcW (c : Cn) (g : TG) (vs : List Nat) (tt : TT) (te : TE) (env : DL.Env) : List Dv → Nat → (Nat → List Dv → Prop) → Prop
  | [], n, K => K n []
  | d :: ds, n, K => GD c g vs d env fun env2 => TD c tt n env2 fun n2 b => if b = true then ED c te n2 env2 fun n3 y => LcW c g vs tt te env ds n3 fun n l => K n (y :: l) else LcW c g vs tt te env ds n2 K
section
variable {c : Cn} {n : Nat} {env : DL.Env} {te : TE} {tt : TT} {wi : TI} {g : TG} {vs : List Nat}
theorem lcW_V : ∀ (items : List Dv) (n : Nat) (K : Nat → List Dv → Prop), LcW c g vs tt te (wipeD env vs) items n K = LcV c g vs tt te env items n K
  | [], n, K => rfl
  | d :: ds, n, K => by
    have e : ∀ n K, LcW c g vs tt te (wipeD env vs) ds n K = LcV c g vs tt te env ds n K := fun n K => lcW_V ds n K
    simp only [LcW, LcV, e]
theorem wipe_nil {e' : DL.Env} : wipeD e' [] = e' := rfl
theorem wipe_cons {v : Nat} {vs : List Nat} {e1 e' : DL.Env} (h : wipeD env vs = e1) (k : e1.set v none = e') : wipeD env (v :: vs) = e' := by rw [← k, ← h]; rfl
theorem ed_lcW {R : Nat → Dv → Prop} (h : ∃ e', wipeD env vs = e' ∧ WD c wi n env fun n0 items => items.length ≤ sizeLine ∧ LcW c g vs tt te e' items n0 fun n1 ds => R n1 (.lst ds)) : ED c (tLc wi g tt te vs) n env R := by
  obtain ⟨e', he, h⟩ := h
  refine ed_lcV fun B H σ r k q => h B H σ r k fun J H' n' items r1 e1 w1 ⟨hl, hu⟩ => q J H' n' items r1 e1 w1 ⟨hl, ?_⟩
  rw [← he, lcW_V] at hu
  exact hu
theorem wipe_mk {e' : DL.Env} {A : DL.Env → Prop} (h : wipeD env vs = e') (k : A e') : ∃ e', wipeD env vs = e' ∧ A e' := ⟨e', h, k⟩
theorem lcW_nil {K : Nat → List Dv → Prop} (k : K n []) : LcW c g vs tt te env [] n K := k
theorem lcW_cons {ds : List Dv} {d : Dv} {K : Nat → List Dv → Prop} (k : GD c g vs d env fun env2 => TD c tt n env2 fun n2 b => if b = true then ED c te n2 env2 fun n3 y => LcW c g vs tt te env ds n3 fun n l => K n (y :: l) else LcW c g vs tt te env ds n2 K) : LcW c g vs tt te env (d :: ds) n K := k
theorem lcW_consY {ds : List Dv} {d : Dv} {K : Nat → List Dv → Prop} (k : GD c g vs d env fun env2 => ED c te n env2 fun n3 y => LcW c g vs tYes te env ds n3 fun n l => K n (y :: l)) : LcW c g vs tYes te env (d :: ds) n K := lcW_cons (gd_mono k fun e2 h => td_yes (iteT h))
theorem lcW_consM {ds : List Dv} {d δ : Dv} {β : Bool} {K : Nat → List Dv → Prop} (k : GD c g vs d env fun env2 => TD c tt n env2 fun n2 b => n2 = n ∧ b = β ∧ ED c te n env2 fun n3 y => n3 = n ∧ y = δ) (k2 : LcW c g vs tt te env ds n fun n l => K n (tk β δ ++ l)) : LcW c g vs tt te env (d :: ds) n K := by
  refine gd_mono k fun e2 h2 => td_mono h2 fun n2 b ⟨e1, eb, h3⟩ => ?_
  subst e1
  subst eb
  cases b with
  | true => exact iteT (ed_mono h3 fun n3 y ⟨e3, ey⟩ => by subst e3; subst ey; exact k2)
  | false => exact iteF k2
/-- each item by itself, no draw -/
theorem lcW_map {items : List Dv} {K : Nat → List Dv → Prop} (b : Dv → Bool) (f : Dv → Dv) (h : ∀ d ∈ items, GD c g vs d env fun env2 => TD c tt n env2 fun n2 b' => n2 = n ∧ b' = b d ∧ (b d = true → ED c te n env2 fun n3 y => n3 = n ∧ y = f d)) (k : K n ((items.filter b).map f)) :
    LcW c g vs tt te env items n K := by
  induction items generalizing K with
  | nil => exact k
  | cons d ds ih =>
    refine gd_mono (h d List.mem_cons_self) fun e2 h2 => td_mono h2 fun n2 b' ⟨e, eb, h3⟩ => ?_
    subst e
    have ih' : ∀ K : Nat → List Dv → Prop, K n2 ((ds.filter b).map f) → LcW c g vs tt te env ds n2 K := fun K k => ih (fun d hd => h d (List.mem_cons_of_mem _ hd)) k
    by_cases q : b d = true
    · rw [eb, q]
      refine iteT (ed_mono (h3 q) fun n3 y ⟨e3, e4⟩ => ?_)
      subst e3
      subst e4
      rw [List.filter_cons_of_pos q, List.map_cons] at k
      exact ih' _ k
    · have q' : b d = false := by simpa using q
      rw [eb, q']
      rw [List.filter_cons_of_neg q] at k
      exact iteF (ih' _ k)
/-- what each gives, and what stays -/
theorem lcW_inv {items : List Dv} {K : Nat → List Dv → Prop} (J : Nat → Prop) (P : Dv → Prop) (h0 : J n) (step : ∀ d ∈ items, ∀ n, J n → GD c g vs d env fun env2 => TD c tt n env2 fun n2 b => if b = true then ED c te n2 env2 fun n3 y => J n3 ∧ P y else J n2)
    (fin : ∀ n l, J n → (∀ y ∈ l, P y) → l.length ≤ items.length → K n l) : LcW c g vs tt te env items n K := by
  induction items generalizing n K with
  | nil => exact fin _ _ h0 (fun _ z => nomatch z) (Nat.le_refl _)
  | cons d ds ih =>
    have ih' : ∀ n (K : Nat → List Dv → Prop), J n → (∀ n l, J n → (∀ y ∈ l, P y) → l.length ≤ ds.length → K n l) → LcW c g vs tt te env ds n K := fun n K h f => ih h (fun d hd => step d (List.mem_cons_of_mem _ hd)) f
    refine gd_mono (step d List.mem_cons_self n h0) fun e2 h2 => td_mono h2 fun n2 b h3 => ?_
    cases b with
    | true => exact iteT (ed_mono (show ED c te n2 e2 _ from h3) fun n3 y ⟨h4, h5⟩ => ih' _ _ h4 fun n l hj hp hl => fin n (y :: l) hj (fun z hz => (List.mem_cons.mp hz).elim (fun e => e ▸ h5) (hp z)) (by simpa using hl))
    | false => exact iteF (ih' _ _ h3 fun n l hj hp hl => fin n l hj hp (by simp only [List.length_cons]; omega))
end
end DL

set_option Elab.async false
set_option linter.all false
set_option maxRecDepth 100000
set_option maxHeartbeats 2000000
/-! D19: xs == [], whatever is in xs. -/
namespace DL
open PySem PySem.Spec PyProof.Rows L2
section
variable {X : Cx}
def rEqZ (K : PySem.W.Frag) : R2 := fun x y H Q => ∃ a b xs, x = .ref a ∧ y = .ref b ∧ SqL K H a xs ∧ SqL K H b [] ∧ Q (.bl xs.isEmpty) H
theorem op_eqZ (hu : X.A.units + 64 < cLine) : OpR X (compareOp .Eq) (rEqZ X.K) := by
  intro pins s σ H x y v u Q I rx ry h
  obtain ⟨a, b, xs, rfl, rfl, h1, h2, q⟩ := h
  cases rx
  cases ry
  obtain ⟨its, r1, t1, _⟩ := I.list h1
  obtain ⟨its2, r2, t2, _⟩ := I.list h2
  cases r2
  cases its with
  | nil =>
    cases r1
    exact SeqAt.eq_listAt (e := fun _ => true) t1.isList t2.isList rfl (by omega) (fun j h1 h2 => by simp at h2) ⟨.bl true, H, I, rfl, q⟩
  | cons z zs =>
    cases r1
    exact SeqAt.eq_list_lengthsAt t1.isList t2.isList (by simp) (by omega) ⟨.bl false, H, I, rfl, q⟩
def rEqW (K : PySem.W.Frag) (neg : Bool) : R2 := fun x y H Q => rEqV K neg x y H Q ∨ (neg = false ∧ rEqZ K x y H Q)
theorem op_eqW (hu : X.A.units + 64 < cLine) : OpR X (compareOp .Eq) (rEqW X.K false) := by
  intro pins s σ H x y v u Q I rx ry h
  rcases h with h | ⟨_, h⟩
  · exact op_eqV hu pins s σ H x y v u Q I rx ry h
  · exact op_eqZ hu pins s σ H x y v u Q I rx ry h
end
section
variable {c : Cn} {R : Dv → Prop}
theorem oW {d e : Dv} (h : OD c (rEqV c.K false) d e R) : OD c (rEqW c.K false) d e R := fun B H x y lv hx hy Q q => .inl (h B H x y lv hx hy Q q)
theorem ow_s {a b : Str} (k : R (.bl (decide (a = b)))) : OD c (rEqW c.K false) (.str a) (.str b) R := oW (ov_s k)
theorem ow_i {a b : Int} (k : R (.bl (decide (a = b)))) : OD c (rEqW c.K false) (.int a) (.int b) R := oW (ov_i k)
theorem ow_b {a b : Bool} (k : R (.bl (a == b))) : OD c (rEqW c.K false) (.bl a) (.bl b) R := oW (ov_bb k)
theorem ow_t {d e : Dv} (p : plain d = true ∧ plain e = true ∧ SeqAt.shaped (py d) = true ∧ SeqAt.shaped (py e) = true) (k : R (.bl (PyData.eqv (py d) (py e)))) : OD c (rEqW c.K false) d e R := oW (ov_t p k)
theorem ow_e {ds : List Dv} (k : R (.bl ds.isEmpty)) : OD c (rEqW c.K false) (.tup ds) (.tup []) R := oW (ov_e k)
theorem ow_z {ds : List Dv} (k : R (.bl ds.isEmpty)) : OD c (rEqW c.K false) (.lst ds) (.lst []) R := fun B H x y lv hx hy Q q => by
  cases hx with
  | lst q1 d1 =>
    cases hy with
    | lst q2 d2 =>
      cases d2
      exact .inr ⟨rfl, _, _, _, rfl, rfl, QL.sq q1, QL.sq q2, q _ H _ (Same.refl _) (.bl _) (by rw [d1.empty]; exact k)⟩
end
end DL

set_option Elab.async false
set_option linter.all false
set_option maxRecDepth 100000
set_option maxHeartbeats 2000000
/-! D20: plain values cut, turned, joined. -/
namespace DL
open PySem PySem.Spec L2
theorem okA_sub {ds es : List Dv} (h : ∀ d ∈ es, d ∈ ds) (k : okA ds = true) : okA es = true := okA_iff.mpr fun d hd => okA_iff.mp k d (h d hd)
theorem dpA_le : ∀ {es : List Dv} {m : Nat}, (∀ d ∈ es, (py d).depth ≤ m) → PyData.depthAll (pyA es) ≤ m
  | [], m, _ => by simp [pyA, PyData.depthAll]
  | e :: es, m, h => by
    have h1 := h e List.mem_cons_self
    have h2 := dpA_le (es := es) (m := m) fun d hd => h d (List.mem_cons_of_mem _ hd)
    simp only [pyA, PyData.depthAll]
    omega
theorem dpA_sub {ds es : List Dv} (h : ∀ d ∈ es, d ∈ ds) : PyData.depthAll (pyA es) ≤ PyData.depthAll (pyA ds) := dpA_le fun d hd => dpA_mem (h d hd)
theorem wtA_split (ds : List Dv) (j : Nat) : PyData.weightAll (pyA ds) = PyData.weightAll (pyA (ds.take j)) + PyData.weightAll (pyA (ds.drop j)) := by
  rw [← wtA_app, List.take_append_drop]
theorem wtA_drop (ds : List Dv) (j : Nat) : PyData.weightAll (pyA (ds.drop j)) ≤ PyData.weightAll (pyA ds) := by have := wtA_split ds j; omega
theorem wtA_take (ds : List Dv) (j : Nat) : PyData.weightAll (pyA (ds.take j)) ≤ PyData.weightAll (pyA ds) := by have := wtA_split ds j; omega
theorem wtA_cut (ds : List Dv) (lo hi : Option Int) : PyData.weightAll (pyA (cutD ds lo hi)) ≤ PyData.weightAll (pyA ds) := Nat.le_trans (wtA_take _ _) (wtA_drop _ _)
theorem mem_cut {ds : List Dv} {lo hi : Option Int} {d : Dv} (h : d ∈ cutD ds lo hi) : d ∈ ds := List.mem_of_mem_drop (List.mem_of_mem_take h)
theorem wtA_rev : ∀ ds : List Dv, PyData.weightAll (pyA ds.reverse) = PyData.weightAll (pyA ds)
  | [] => rfl
  | d :: ds => by
    rw [List.reverse_cons, wtA_app, wtA_rev ds]
    simp only [pyA, PyData.weightAll]
    omega
theorem Ok.sub {m k m' : Nat} {ds es : List Dv} (h : Ok m k (.tup ds)) (s : ∀ d ∈ es, d ∈ ds) (w : PyData.weightAll (pyA es) ≤ m') : Ok m' k (.tup es) ∧ Ok m' k (.lst es) := by
  obtain ⟨h1, h2, h3⟩ := h.tupA
  have h4 := dpA_sub s
  exact ⟨.tup (okA_sub s h1) w (by omega), .lst (okA_sub s h1) w (by omega)⟩
theorem Ok.cutT {m k : Nat} {ds : List Dv} (h : Ok m k (.tup ds)) (lo hi : Option Int) : Ok m k (.tup (cutD ds lo hi)) := (h.sub (fun _ => mem_cut) (Nat.le_trans (wtA_cut _ _ _) h.tupA.2.1)).1
theorem Ok.revT {m k : Nat} {ds : List Dv} (h : Ok m k (.tup ds)) : Ok m k (.tup ds.reverse) := (h.sub (fun _ => List.mem_reverse.mp) (by rw [wtA_rev]; exact h.tupA.2.1)).1
theorem Ok.listT {m k : Nat} {ds : List Dv} (h : Ok m k (.tup ds)) : Ok m k (.lst ds) := (h.sub (fun _ z => z) h.tupA.2.1).2
theorem Ok.appT {m k m' k' : Nat} {ds es : List Dv} (h : Ok m k (.tup ds)) (h' : Ok m' k' (.tup es)) : Ok (m + m') (max k k') (.tup (ds ++ es)) := by
  obtain ⟨h1, h2, h3⟩ := h.tupA
  obtain ⟨g1, g2, g3⟩ := h'.tupA
  exact .tup (okA_app.mpr ⟨h1, g1⟩) (by rw [wtA_app]; omega) (by rw [dpA_app]; omega)
theorem Ok.one {m k : Nat} {d : Dv} (h : Ok m k d) : Ok (m + 1) (k + 1) (.tup [d]) := by
  have h1 := h.ok
  have h2 := h.wt
  have h3 := h.dp
  exact .tup (by simpa [okA] using h1) (by simp only [pyA, PyData.weightAll]; omega) (by simp only [pyA, PyData.depthAll]; omega)
/-! ### texts -/
theorem strOk_iff {x : Str} : PyData.strOk x = true ↔ ∀ k ∈ x.cps.toList, k < 0x110000 := by
  unfold PyData.strOk
  rw [← Array.all_toList, List.all_eq_true]
  simp only [decide_eq_true_eq]
theorem strOk_app {x y : Str} (h : PyData.strOk x = true) (g : PyData.strOk y = true) : PyData.strOk (x ++ y) = true := by
  rw [strOk_iff] at *
  intro k hk
  have hk : k ∈ (x.cps ++ y.cps).toList := hk
  rw [Array.toList_append, List.mem_append] at hk
  exact hk.elim (h k) (g k)
theorem strOk_sub {x y : Str} (h : PyData.strOk x = true) (g : ∀ k ∈ y.cps.toList, k ∈ x.cps.toList) : PyData.strOk y = true := by
  rw [strOk_iff] at *
  exact fun k hk => h k (g k hk)
theorem strOk_lit (s : String) : PyData.strOk (Str.ofString s) = true := by
  rw [strOk_iff]
  intro k hk
  rw [PyProof.Rows.signs_ofString] at hk
  obtain ⟨ch, _, rfl⟩ := List.mem_map.mp hk
  have := ch.valid
  unfold Char.toNat
  rcases this with h | h
  · have : ch.val.toNat < 0xd800 := h
    omega
  · exact h.2
theorem cutS_mem {z : Str} {lo hi : Option Int} : ∀ k ∈ (cutS z lo hi).cps.toList, k ∈ z.cps.toList := by
  intro k hk
  unfold cutS at hk
  exact List.mem_of_mem_drop (List.mem_of_mem_take hk)
theorem cutS_ok {z : Str} {lo hi : Option Int} (h : PyData.strOk z = true) : PyData.strOk (cutS z lo hi) = true := strOk_sub h cutS_mem
theorem cutS_len (z : Str) (lo hi : Option Int) : (cutS z lo hi).cps.size ≤ z.cps.size := by
  unfold cutS
  simp only [List.size_toArray, List.length_take, List.length_drop, Array.length_toList]
  omega
theorem revS_ok {z : Str} (h : PyData.strOk z = true) : PyData.strOk (revS z) = true := strOk_sub h fun k hk => by
  unfold revS at hk
  simpa using hk
def okB (m k : Nat) (d : Dv) : Bool := okD d && (decide ((py d).weight ≤ m) && decide ((py d).depth ≤ k))
theorem okB_ok {m k : Nat} {d : Dv} (h : okB m k d = true) : Ok m k d := by
  unfold okB at h
  simp only [Bool.and_eq_true, decide_eq_true_eq] at h
  exact ⟨h.1, h.2.1, h.2.2⟩
theorem okB_all {m k : Nat} {l : List Dv} (h : l.all (okB m k) = true) : ∀ d ∈ l, Ok m k d := fun d hd => okB_ok (List.all_eq_true.mp h d hd)
section
variable {c : Cn} {n : Nat} {env : DL.Env} {R : Dv → Prop}
theorem ed_dnew {R : Nat → Dv → Prop} (k : R n (.dic [])) : ED c tDNewK n env R := fun B H σ r Q q p hp =>
  q _ _ n _ (r.same (same_new hp _)) (Ext0.same (same_new hp _)) (.dic (r.new hp) upd_same .nil) k
theorem od_repP {ds : List Dv} {m : Nat} (hm : m ≤ 1000) (l : ds.length ≤ 10000) (k : ∀ L : List Dv, (∀ d ∈ L, d ∈ ds) → L.length = m * ds.length → R (.lst L)) : OD c rMulU (.lst ds) (.int (m : Int)) R := by
  refine od_rep (by omega) ?_ (k _ (fun d hd => ?_) ?_)
  · have : ds.length * m ≤ 10000 * 1000 := Nat.mul_le_mul l hm
    rw [sizeLine_eq]
    omega
  · obtain ⟨l', h1, h2⟩ := List.mem_flatten.mp hd
    rw [(List.mem_replicate.mp h1).2] at h2
    exact h2
  · have e : ∀ (j : Nat) (l : List Dv), (List.replicate j l).flatten.length = j * l.length := fun j l => by
      induction j with
      | zero => simp
      | succ j ih => rw [List.replicate_succ, List.flatten_cons, List.length_append, ih, Nat.succ_mul]; omega
    exact e _ _
end
end DL

set_option Elab.async false
set_option linter.all false
set_option maxRecDepth 100000
set_option maxHeartbeats 2000000
/-! D21: a law's own def: the deck is made, then used. -/
namespace DL
open PySem PySem.Spec L2
/-- what a law promises of its script -/
def spL (K : PySem.W.Frag) : Sp := fun vs H Q _ => ∃ (a : Addr) (ns : List Int), vs = [.ref a] ∧ SqL K H a (ns.map V.int) ∧ ∀ H', Q (.bl true) H'
theorem qs_of {K : PySem.W.Frag} {H : Hp} {a : Addr} {xs : List V} (h : SqL K H a xs) : QS (fun _ => False) K H a xs := h.imp (fun z => ⟨id, z⟩) id
theorem dtk3 {wd : Wd} {B : Addr → Prop} {K : PySem.W.Frag} {H : Hp} {kvs : List (Key × V)} {kb : Str} {cs : List Int} {m : Int}
    (h : DtK wd B K H kvs [(Sum.inr "cells", .lst (cs.map Dv.int)), (Sum.inr kb, .int m), (Sum.inr "draws", .int 0)]) :
    ∃ cl, kvs = ([(Sum.inr "cells", V.ref cl), (Sum.inr kb, V.int m), (Sum.inr "draws", V.int 0)] : List (Key × V)) ∧ H cl = some (.lst (cs.map V.int)) := by
  cases h with
  | cons h1 h2 =>
    cases h2 with
    | cons h3 h4 =>
      cases h4 with
      | cons h5 h6 =>
        cases h6
        cases h3
        cases h5
        cases h1 with
        | lst q d =>
          cases dta_ints_back d
          exact ⟨_, rfl, q.2⟩
theorem lawD {P : Program} {w : World} {K : PySem.W.Frag} {mg : Str → Option Value} {base : Heap} {k : Nat} {f : Addr} {fd : FuncData} {p x qual kb : Str} {st : Stmt} {NN : List Str} {Cd : Ct} {rest : TS}
    (F : Fun K x qual st f fd) (S : FnScope NN [p] (defScope st)) (hN : 2 ≤ NN.length)
    (hb : ∀ (cdv : Value) (A : Around) (outer : List PySem.Env) (s : Shared) (H : Hp) (E : XK), A.guards = some [] →
      Room k (A.deeper (PyProof.Rows.envOfC qual (defScope st) s.heap.objs.size f cdv)) →
      PSs (cxOf CX0 P w K mg base NN qual (defScope st) f cdv A outer s H E).nox (defBody st) (tSeq (tAsg (tCall (spD K mg Cd) [] E0 (tCons (tVar 0) tNil)) (gName 1)) rest))
    (hdeck : ∀ n ns R, (∀ (cs : List Int) (m : Int), cs.length ≤ 63 → 0 ≤ m → m < 4294967296 → R n (.dic [(Sum.inr "cells", .lst (cs.map Dv.int)), (Sum.inr kb, .int m), (Sum.inr "draws", .int 0)])) → Cd n [.scr ns] R)
    (hrest : ∀ c : Cn, c.K = K → c.wd.cm = mg → SD c rest 4000000 (none :: some (.fz (.deck kb)) :: List.replicate (NN.length - 2) none) { nx := fun _ _ => False, rt := fun _ d => d = .bl true }) :
    FnG P w K mg base CX0 (k + 1) f fd [p] (spL K) := by
  refine okG F S (fun vs H Q E ⟨a, ns, e, _⟩ => by rw [e]; rfl) fun cdv A outer s H vs Q E hg hr hsp => ?_
  obtain ⟨a, ns, rfl, hs, hQ⟩ := hsp
  refine ⟨_, (hb cdv A outer s H E hg hr).nox, ?_⟩
  let c0 : Cn := ⟨⟨none, mg⟩, fun _ => False, K, H, fun _ z => z.elim, fun _ => False, H, 0⟩
  have wok0 : WOk ⟨none, mg⟩ 0 H := fun _ z => nomatch z
  have r0 : Rel c0 (fun _ => False) 0 H (L2.start NN [.ref a]) (startD NN.length [.scr ns]) :=
    rel_start (fun _ z => z.elim) wok0 (fun _ ⟨_, z, _⟩ => nomatch z) (.cons (.scr (qs_of hs)) .nil)
  have e0 : startD NN.length [.scr ns] = some (.fz (.scr ns)) :: List.replicate (NN.length - 1) none := rfl
  have s1 : SD c0 (tAsg (tCall (spD K mg Cd) [] E0 (tCons (tVar 0) tNil)) (gName 1)) 0 (startD NN.length [.scr ns])
      { nx := fun _ env => ∃ (cs : List Int) (m : Int), cs.length ≤ 63 ∧ 0 ≤ m ∧ m < 4294967296 ∧ env = (startD NN.length [.scr ns]).set 1 (some (.fz (.dic [(Sum.inr "cells", .lst (cs.map Dv.int)), (Sum.inr kb, .int m), (Sum.inr "draws", .int 0)]))), rt := fun _ _ => False } := by
    refine sd_asg (ed_call (c := c0) (ad_cons (ed_var (d := .scr ns) (by rw [e0]; rfl) (ad_nil ?_))))
    exact hdeck _ _ _ fun cs m h1 h2 h3 => ⟨cs, m, h1, h2, h3, rfl⟩
  refine s1 (fun _ => False) H _ (fun _ z => z) r0 _ ⟨fun B2 H2 σ2 n2 env2 _ _ r2 k2 => ?_, fun _ _ _ _ _ _ _ _ z => z.elim, fun _ _ _ _ _ _ _ _ z => z.elim, fun _ _ _ _ _ _ _ z => z.elim⟩
  obtain ⟨cs, m, l1, m0, m1, rfl⟩ := k2
  obtain ⟨v, hv, hd⟩ := r2.fz 1 (.dic [(Sum.inr "cells", .lst (cs.map Dv.int)), (Sum.inr kb, .int m), (Sum.inr "draws", .int 0)]) (by
    rw [List.getElem?_set_self (by rw [e0]; simp; omega)])
  have len2 : σ2.length = NN.length := by rw [r2.len, List.length_set, e0]; simp; omega
  cases hd with
  | @dic dk kvs _ hB hH hK =>
    obtain ⟨cl, rfl, hcl⟩ := dtk3 hK
    have ne : dk ≠ cl := fun z => by
      rw [z, hcl] at hH
      cases hH
    let p : Dek := ⟨dk, cl, kb⟩
    have wok : WOk ⟨some p, mg⟩ 4000000 H2 := fun q hq => by
      cases hq
      exact ⟨ne, m, 0, cs, hH, hcl, by omega, m0, m1, by omega, by decide⟩
    let c1 : Cn := ⟨⟨some p, mg⟩, Dk ⟨some p, mg⟩, K, H2, fun a z => wok.live z, Dk ⟨some p, mg⟩, H2, 0⟩
    have r1 : Rel c1 (Dk ⟨some p, mg⟩) 4000000 H2 σ2 (none :: some (.fz (.deck kb)) :: List.replicate (NN.length - 2) none) := {
      sub := fun _ z => z
      stp := Step.refl _ _
      len := by rw [len2]; simp; omega
      wok := wok
      dk := fun _ z => z
      live := fun _ z => wok.live z
      ent := Ext0.refl _ _
      fz := fun i d hi => by
        match i, hi with
        | 1, hi =>
          have hi : some (some (Dx.fz (.deck kb))) = some (some (Dx.fz d)) := hi
          cases hi
          exact ⟨_, hv, .deck (p := p) rfl⟩
        | i + 2, hi =>
          have hi : (List.replicate (NN.length - 2) (none : Option Dx))[i]? = some (some (Dx.fz d)) := hi
          rw [List.getElem?_replicate] at hi
          split at hi <;> cases hi
      own := fun i o hi => by
        match i, hi with
        | 1, hi =>
          have hi : some (some (Dx.fz (.deck kb))) = some (some (Dx.own o)) := hi
          cases hi
        | i + 2, hi =>
          have hi : (List.replicate (NN.length - 2) (none : Option Dx))[i]? = some (some (Dx.own o)) := hi
          rw [List.getElem?_replicate] at hi
          split at hi <;> cases hi
      inj := fun i j o u a hi => by
        match i, hi with
        | 1, hi =>
          have hi : some (some (Dx.fz (.deck kb))) = some (some (Dx.own o)) := hi
          cases hi
        | i + 2, hi =>
          have hi : (List.replicate (NN.length - 2) (none : Option Dx))[i]? = some (some (Dx.own o)) := hi
          rw [List.getElem?_replicate] at hi
          split at hi <;> cases hi
      slf := fun i cn es hi => by
        match i, hi with
        | 1, hi =>
          have hi : some (some (Dx.fz (.deck kb))) = some (some (Dx.own (.ins cn es))) := hi
          cases hi
        | i + 2, hi =>
          have hi : (List.replicate (NN.length - 2) (none : Option Dx))[i]? = some (some (Dx.own (.ins cn es))) := hi
          rw [List.getElem?_replicate] at hi
          split at hi <;> cases hi }
    refine hrest c1 rfl rfl (Dk ⟨some p, mg⟩) H2 σ2 (fun _ z => z) r1 _ ⟨fun _ _ _ _ _ _ _ _ z => z.elim, fun _ _ _ _ _ _ _ _ z => z.elim, fun _ _ _ _ _ _ _ _ z => z.elim, fun v H3 n3 d _ _ hd k3 => ?_⟩
    subst k3
    cases hd
    exact hQ H3
end DL

set_option Elab.async false
set_option linter.all false
set_option maxRecDepth 100000
set_option maxHeartbeats 2000000
/-! D22: own objects read (borrowed), turned to trees; while. -/
namespace DL
abbrev RP := Nat → Dv → Prop
open PySem PySem.Spec L2
section
variable {c : Cn} {n : Nat} {env : DL.Env} {N : DN} {te : TE} {tt : TT} {t u tb : TS}
def obD : Ob → Dv
  | .lst ds => .lst ds
  | .dic es => .dic es
  | .dct es => .dct es
  | .ins C es => .ins C es
/-- what can be a def's own -/
def isOb : HO → Prop
  | .lst _ => True
  | .dK _ => True
  | .dT _ => True
  | .ins _ _ _ => True
  | _ => False
theorem Rel.freezeO {B : Addr → Prop} {H : Hp} {σ : L2.St} (R : Rel c B n H σ env) {i : Nat} {o : Ob} (hi : env[i]? = some (some (.own o))) :
    ∃ a, σ[i]? = some (some (.ref a)) ∧ B a ∧ c.He a = none ∧ (∃ u, H a = some u ∧ isOb u) ∧ Rel c (fun x => B x ∧ x ≠ a) n H σ (env.set i (some (.fz (obD o)))) := by
  obtain ⟨a, e, hb, nk, he, ho⟩ := R.own i _ hi
  have li : i < env.length := (List.getElem?_eq_some_iff.mp hi).1
  have hp' : ∀ x o, H x = some o → ¬ B x → H x = some o := fun _ _ h _ => h
  have hb' : ∀ x, (B x ∧ x ≠ a) → B x ∨ H x = none := fun _ h => .inl h.1
  refine ⟨a, e, hb, he, ?_, ⟨fun x h => ⟨R.sub x h, fun q => c.lv x h (q ▸ he)⟩, R.stp.trans ⟨hp', hb'⟩, by rw [List.length_set]; exact R.len, R.wok, fun x h => ⟨R.dk x h, fun q => nk (q ▸ h)⟩, fun x h => R.live x h.1, R.ent, fun j d h => ?_, fun j w h => ?_, fun j k w z b hj hk sj sk => ?_, fun j cn es hj => ?_⟩⟩
  · cases o with
    | lst ds => obtain ⟨xs, h1, _⟩ := ho; exact ⟨_, h1, trivial⟩
    | dic ds => obtain ⟨xs, h1, _⟩ := ho; exact ⟨_, h1, trivial⟩
    | dct ds => obtain ⟨xs, h1, _⟩ := ho; exact ⟨_, h1, trivial⟩
    | ins cn ds => obtain ⟨C, dx, xs, _, _, h1, _⟩ := ho; exact ⟨_, h1, trivial⟩
  · by_cases q : i = j
    · subst q
      rw [List.getElem?_set_self li] at h
      cases h
      refine ⟨.ref a, e, ?_⟩
      cases o with
      | lst ds => obtain ⟨xs, hx, hd⟩ := ho; exact .lst ⟨fun z => z.2 rfl, hx⟩ (DtA.move hp' hb' ds xs hd)
      | dic ds => obtain ⟨xs, hx, hd⟩ := ho; exact .dic (fun z => z.2 rfl) hx (DtK.move hp' hb' ds xs hd)
      | dct ds => obtain ⟨xs, hx, hd⟩ := ho; exact .dct (fun z => z.2 rfl) hx (DtL.move hp' hb' ds xs hd)
      | ins cn ds => obtain ⟨C, dx, xs, hc, hk, hx, hd⟩ := ho; exact .ins hc hk (fun z => z.2 rfl) hx (DtF.move hp' hb' ds xs hd)
    · rw [List.getElem?_set_ne q] at h
      obtain ⟨w, e, r⟩ := R.fz j d h
      exact ⟨w, e, Dt.move hp' hb' d w r⟩
  · by_cases q : i = j
    · subst q
      rw [List.getElem?_set_self li] at h
      cases h
    · rw [List.getElem?_set_ne q] at h
      obtain ⟨b, eb, bb, bn, be, r⟩ := R.own j w h
      have nab : b ≠ a := fun z => q (R.inj i j _ w a hi h e (z ▸ eb))
      exact ⟨b, eb, ⟨bb, nab⟩, bn, be, Own.move hp' hb' (fun _ z => z) r⟩
  · have back : ∀ {j : Nat} {w : Ob}, (env.set i (some (.fz (obD o))))[j]? = some (some (.own w)) → env[j]? = some (some (.own w)) := fun {j w} h => by
      by_cases q : i = j
      · subst q; rw [List.getElem?_set_self li] at h; cases h
      · rwa [List.getElem?_set_ne q] at h
    exact R.inj j k w z b (back hj) (back hk) sj sk
  · by_cases q : i = j
    · subst q; rw [List.getElem?_set_self li] at hj; cases hj
    · rw [List.getElem?_set_ne q] at hj
      exact R.slf j cn es hj
theorem sd_freezeO (i : Nat) {o : Ob} (hi : env[i]? = some (some (.own o))) (h : SD c t n (env.set i (some (.fz (obD o)))) N) : SD c t n env N := fun B H σ b r D l => by
  obtain ⟨a, e, hb, he, _, r'⟩ := r.freezeO hi
  exact h _ H σ (fun x z => ⟨b x z, fun q => c.lv x z (q ▸ he)⟩) r' D (l.later ⟨fun _ _ e _ => e, fun a z => .inl z.1⟩)

/-! ### borrowed -/
mutual
def noL : Dv → Bool
  | .tup ds => noLA ds
  | .lst _ => false
  | .dic _ => false
  | .ins _ _ => false
  | .dct _ => false
  | .deck _ => false
  | .scr _ => false
  | _ => true
def noLA : List Dv → Bool
  | [] => true
  | d :: ds => noL d && noLA ds
end
def tupAt (K : PySem.W.Frag) (H : Hp) (a : Addr) : Prop := ∃ u, H a = some u ∧ isOb u
theorem rd_tup {H : Hp} {a : Addr} {xs : List V} (h : Rd H a (.tup xs)) (k : ∃ u, H a = some u ∧ isOb u) : False := by
  obtain ⟨u, h1, h2⟩ := k
  rcases h with z | ⟨o, z⟩ <;> rw [z] at h1 <;> cases h1 <;> exact h2
mutual
theorem Dt.ban {wd : Wd} {B B' : Addr → Prop} {K : PySem.W.Frag} {H : Hp} (hb : ∀ a, B' a → B a ∨ ∃ u, H a = some u ∧ isOb u) : ∀ (d : Dv) (v : V), noL d = true → Dt wd B K H v d → Dt wd B' K H v d
  | .non, _, _, h => by cases h; exact .non
  | .bl b, _, _, h => by cases h; exact .bl b
  | .int i, _, _, h => by cases h; exact .int i
  | .str x, _, _, h => by cases h; exact .str x
  | .tup ds, _, hn, h => by
    cases h with
    | tup q r =>
      refine .tup ⟨fun x => (hb _ x).elim q.1 (rd_tup (.inl q.2)), q.2⟩ (DtA.ban hb ds _ (by simpa [noL] using hn) r)
  | .lst _, _, hn, _ => by simp [noL] at hn
  | .dic _, _, hn, _ => by simp [noL] at hn
  | .ins _ _, _, hn, _ => by simp [noL] at hn
  | .dct _, _, hn, _ => by simp [noL] at hn
  | .deck _, _, hn, _ => by simp [noL] at hn
  | .scr _, _, hn, _ => by simp [noL] at hn
theorem DtA.ban {wd : Wd} {B B' : Addr → Prop} {K : PySem.W.Frag} {H : Hp} (hb : ∀ a, B' a → B a ∨ ∃ u, H a = some u ∧ isOb u) : ∀ (ds : List Dv) (vs : List V), noLA ds = true → DtA wd B K H vs ds → DtA wd B' K H vs ds
  | [], _, _, h => by cases h; exact .nil
  | d :: ds, _, hn, h => by
    simp only [noLA, Bool.and_eq_true] at hn
    cases h with
    | cons a r => exact .cons (Dt.ban hb d _ hn.1 a) (DtA.ban hb ds _ hn.2 r)
end
theorem ed_bor {i : Nat} {o : Ob} {R : RP} (hi : env[i]? = some (some (.own o))) (h : ED c te n (env.set i (some (.fz (obD o)))) fun n1 d => noL d = true ∧ R n1 d) : ED c te n env R := fun B H σ r Q q => by
  obtain ⟨a, e, hb, he, hk, r'⟩ := r.freezeO hi
  refine h _ H σ r' Q fun v H' n' d r1 e1 h1 ⟨hn, k1⟩ => ?_
  have nd : ¬ Dk c.wd a := fun z => by
    obtain ⟨a', e', _, nk, _⟩ := r.own i _ hi
    rw [e] at e'
    cases e'
    exact nk z
  have hk' : ∃ u, H' a = some u ∧ isOb u := by
    obtain ⟨u, h1, h2⟩ := hk
    exact ⟨u, e1 a u h1 nd, h2⟩
  refine q v H' n' d (r.ext e1 r1.wok) e1 (Dt.ban (fun x hx => ?_) d v hn h1) k1
  by_cases z : x = a
  · subst z; exact .inr hk'
  · exact .inl ⟨hx, z⟩
theorem td_bor {i : Nat} {o : Ob} {R : Nat → Bool → Prop} (hi : env[i]? = some (some (.own o))) (h : TD c tt n (env.set i (some (.fz (obD o)))) R) : TD c tt n env R := fun B H σ r Q q => by
  obtain ⟨a, e, hb, he, hk, r'⟩ := r.freezeO hi
  exact h _ H σ r' Q fun b H' n' r1 e1 k1 => q b H' n' (r.ext e1 r1.wok) e1 k1
/-- x[e], x an own list -/
theorem ed_oix {i : Nat} {ds : List Dv} {R : RP} (hi : env[i]? = some (some (.own (.lst ds)))) (h : ED c te n env fun n1 e => ∃ j d, e = .int j ∧ L2.atI ds j = some d ∧ R n1 d) : ED c (tOp (rIx c.K) (tVar i) te) n env R := fun B H σ r Q q => by
  obtain ⟨a, e, hb, nk, he, xs, hx, hd⟩ := r.own i _ hi
  refine ⟨.ref a, e, h B H σ r _ fun v H1 n1 dj r1 e1 h1 ⟨j, d, ej, hat, k⟩ => ?_⟩
  subst ej
  cases h1
  obtain ⟨a', e', hb', nk', he', xs', hx', hd'⟩ := r1.own i _ hi
  rw [e] at e'
  cases e'
  obtain ⟨w, hw, hwd⟩ := hd'.atI hat
  exact .inl ⟨a, xs', j, w, rfl, rfl, .inl (.inl hx'), hw, q w H1 n1 d r1 e1 hwd k⟩
/-- x[e], x an own dict -/
theorem ed_oget {i : Nat} {es : List (Key × Dv)} {R : RP} (hi : env[i]? = some (some (.own (.dic es)))) (h : ED c te n env fun n1 e => ∃ k d, keyD e = some k ∧ lkD es k = some d ∧ R n1 d) : ED c (tDGet (tVar i) te) n env R := fun B H σ r Q q => by
  obtain ⟨a, e, hb, nk, he, xs, hx, hd⟩ := r.own i _ hi
  refine ⟨.ref a, e, h B H σ r _ fun v H1 n1 dk r1 e1 h1 ⟨k, d, ek, hat, k1⟩ => ?_⟩
  have hu : v = kV k := by cases h1 <;> simp only [keyD] at ek <;> cases ek <;> rfl
  subst hu
  obtain ⟨a', e', hb', nk', he', xs', hx', hd'⟩ := r1.own i _ hi
  rw [e] at e'
  cases e'
  obtain ⟨w, hw, hwd⟩ := hd'.lk k hat
  exact ⟨a, w, rfl, .inl ⟨_, k, .inl hx', rfl, hw.symm⟩, q w H1 n1 d r1 e1 hwd k1⟩
/-- while -/
theorem sd_while (J : Nat → Nat → DL.Env → Prop) {m0 : Nat} (h0 : J m0 n env) (step : ∀ m n env, J m n env → TD c tt n env fun n1 b => if b = true then SD c tb n1 env { nx := fun n e => ∃ m' < m, J m' n e, rt := N.rt, bk := N.nx, ct := fun n e => ∃ m' < m, J m' n e } else N.nx n1 env) :
    SD c (tWhile tt tb) n env N := fun B H σ b r D l => by
  refine ⟨fun m σ2 H2 => ∃ B2 n2 env2, Step B H B2 H2 ∧ (∀ a, c.B a → B2 a) ∧ Rel c B2 n2 H2 σ2 env2 ∧ J m n2 env2, ⟨m0, B, n, env, Step.refl B H, b, r, h0⟩, ?_⟩
  rintro m σ2 H2 ⟨B2, n2, env2, s2, b2, r2, j2⟩
  refine step m n2 env2 j2 B2 H2 σ2 r2 _ fun k H3 n3 r3 e3 h3 => ?_
  have s3 : Step B H B2 H3 := s2.trans (Step.ext r2 e3)
  cases k with
  | false => exact iteF (l.nx B2 H3 σ2 n3 env2 s3 b2 r3 h3)
  | true =>
    refine iteT ⟨fun σ' H' => ∃ m' < m, ∃ B4 n4 env4, Step B H B4 H' ∧ (∀ a, c.B a → B4 a) ∧ Rel c B4 n4 H' σ' env4 ∧ J m' n4 env4, fun σ' H' ⟨m', h1, z⟩ => ⟨m', h1, z⟩, ?_⟩
    exact (show SD c tb n3 env2 _ from h3) B2 H3 σ2 b2 r3 _ ⟨fun B4 H4 σ4 n4 env4 s4 b4 r4 ⟨m', h1, k4⟩ => ⟨m', h1, B4, n4, env4, s3.trans s4, b4, r4, k4⟩,
      fun B4 H4 σ4 n4 env4 s4 b4 r4 k4 => l.nx B4 H4 σ4 n4 env4 (s3.trans s4) b4 r4 k4,
      fun B4 H4 σ4 n4 env4 s4 b4 r4 ⟨m', h1, k4⟩ => ⟨m', h1, B4, n4, env4, s3.trans s4, b4, r4, k4⟩, l.rt⟩
end
end DL

set_option Elab.async false
set_option linter.all false
set_option maxRecDepth 100000
set_option maxHeartbeats 2000000
/-! D23: own lists and dicts are stored into. -/
namespace DL
open PySem PySem.Spec L2
section
variable {c : Cn} {n : Nat} {env : DL.Env} {N : DN} {te ti : TE} {tt : TT} {t u tb : TS}
theorem keep_turn {B : Addr → Prop} {H : Hp} {a : Addr} {u : HO} (hb : B a) : ∀ x o, H x = some o → ¬ B x → upd H a u x = some o := fun x o q z => by
  rw [upd_ne (show x ≠ a from fun y => z (by rw [y]; exact hb))]
  exact q
theorem DtA.setA {wd : Wd} {B : Addr → Prop} {K : PySem.W.Frag} {H : Hp} {v : V} {d : Dv} (hv : Dt wd B K H v d) : ∀ {vs : List V} {ds : List Dv} (j : Nat), DtA wd B K H vs ds → DtA wd B K H (vs.set j v) (ds.set j d)
  | _, _, _, .nil => by rw [List.set_nil, List.set_nil]; exact .nil
  | _, _, 0, .cons _ r => .cons hv r
  | _, _, j + 1, .cons a r => .cons a (DtA.setA hv j r)
/-- x[ti] = te -/
theorem sd_oset {i : Nat} {ds : List Dv} (hi : env[i]? = some (some (.own (.lst ds)))) (h : ED c te n env fun n1 d => ED c ti n1 env fun n2 e => ∃ k j, e = .int k ∧ ixN ds.length k = some j ∧ N.nx n2 (env.set i (some (.own (.lst (ds.set j d)))))) :
    SD c (tAsg te (gSub (tVar i) ti rSetL)) n env N := fun B H σ b r D l => by
  refine h B H σ r _ fun v H1 n1 d r1 e1 h1 k1 => ?_
  obtain ⟨a, e, hb, nk, he, xs, hx, hd⟩ := r1.own i _ hi
  refine ⟨.ref a, e, k1 B H1 σ r1 _ fun w H2 n2 dk r2 e2 h2 ⟨k, j, ek, hj, k2⟩ => ?_⟩
  subst ek
  cases h2
  obtain ⟨a', e', hb', nk', he', xs', hx', hd'⟩ := r2.own i _ hi
  rw [e] at e'
  cases e'
  refine ⟨a, xs', k, j, rfl, rfl, hx', by rw [hd'.length]; exact hj, ?_⟩
  obtain ⟨r3, s3⟩ := r2.turn hi e (.lst (xs'.set j v)) (.lst (ds.set j d)) ⟨_, upd_same, DtA.move (keep_turn hb) (fun _ z => .inl z) _ _ (DtA.setA (r1.dt e2 h1) j hd')⟩
  exact l.nx B _ σ n2 _ ((Step.ext r (e1.trans e2)).trans s3) b r3 k2
/-- x.extend(te) -/
theorem sd_oext {i : Nat} {ds : List Dv} (hi : env[i]? = some (some (.own (.lst ds)))) (h : ED c te n env fun n1 d => ∃ es, d = .lst es ∧ ds.length + es.length ≤ sizeLine ∧ N.nx n1 (env.set i (some (.own (.lst (ds ++ es)))))) :
    SD c (tDrop (tBM c.K "list" rExtend (tVar i) (tCons te tNil))) n env N := fun B H σ b r D l => by
  obtain ⟨a, e, hb, nk, he, xs, hx, hd⟩ := r.own i _ hi
  refine ⟨_, e, .inl ⟨rfl, xs, .inl (.inl hx)⟩, ?_⟩
  refine h B H σ r _ fun v H1 n1 d r1 e1 h1 ⟨es, ed, sz, k⟩ => ?_
  subst ed
  obtain ⟨a', e', hb', nk', he', xs', hx', hd'⟩ := r1.own i _ hi
  rw [e] at e'
  cases e'
  cases h1 with
  | @lst p zs _ q hz =>
    refine ⟨a, p, xs', zs, rfl, rfl, hx', q.2, by rw [hd'.length, hz.length]; exact sz, ?_⟩
    obtain ⟨r2, s2⟩ := r1.turn hi e (.lst (xs' ++ zs)) (.lst (ds ++ es)) ⟨_, upd_same, DtA.move (keep_turn hb) (fun _ z => .inl z) _ _ (hd'.append hz)⟩
    exact l.nx B _ σ n1 _ ((Step.ext r e1).trans s2) b r2 k
theorem DtA.dropLast {wd : Wd} {B : Addr → Prop} {K : PySem.W.Frag} {H : Hp} : ∀ {vs : List V} {ds : List Dv}, DtA wd B K H vs ds → DtA wd B K H vs.dropLast ds.dropLast
  | _, _, .nil => .nil
  | _, _, .cons a .nil => .nil
  | _, _, .cons a (.cons b r) => by rw [List.dropLast_cons₂, List.dropLast_cons₂]; exact .cons a (DtA.dropLast (.cons b r))
/-- y = x.pop() -/
theorem sd_opop {i j : Nat} {ds : List Dv} {d : Dv} (hi : env[i]? = some (some (.own (.lst ds)))) (hd : ds.getLast? = some d) (h : N.nx n ((env.set i (some (.own (.lst ds.dropLast)))).set j (some (.fz d)))) :
    SD c (tAsg (tBM0 c.K "list" rPop (tVar i)) (gName j)) n env N := fun B H σ b r D l => by
  obtain ⟨a, e, hb, nk, he, xs, hx, hds⟩ := r.own i _ hi
  have hg : ds[ds.length - 1]? = some d := by rw [← List.getLast?_eq_getElem?]; exact hd
  obtain ⟨v, hv, hvd⟩ := hds.get hg
  refine ⟨_, e, .inl ⟨rfl, xs, .inl (.inl hx)⟩, a, xs, v, rfl, rfl, hx, by rw [hds.length]; exact hv, ?_⟩
  obtain ⟨r2, s2⟩ := r.turn hi e (.lst xs.dropLast) (.lst ds.dropLast) ⟨_, upd_same, DtA.move (keep_turn hb) (fun _ z => .inl z) _ _ hds.dropLast⟩
  exact l.nx B _ _ n _ s2 b (r2.set j (Dt.move (keep_turn hb) (fun _ z => .inl z) d v hvd)) h
/-- x.pop() -/
theorem sd_opop0 {i : Nat} {ds : List Dv} {d : Dv} (hi : env[i]? = some (some (.own (.lst ds)))) (hd : ds.getLast? = some d) (h : N.nx n (env.set i (some (.own (.lst ds.dropLast))))) :
    SD c (tDrop (tBM0 c.K "list" rPop (tVar i))) n env N := fun B H σ b r D l => by
  obtain ⟨a, e, hb, nk, he, xs, hx, hds⟩ := r.own i _ hi
  have hg : ds[ds.length - 1]? = some d := by rw [← List.getLast?_eq_getElem?]; exact hd
  obtain ⟨v, hv, hvd⟩ := hds.get hg
  refine ⟨_, e, .inl ⟨rfl, xs, .inl (.inl hx)⟩, a, xs, v, rfl, rfl, hx, by rw [hds.length]; exact hv, ?_⟩
  obtain ⟨r2, s2⟩ := r.turn hi e (.lst xs.dropLast) (.lst ds.dropLast) ⟨_, upd_same, DtA.move (keep_turn hb) (fun _ z => .inl z) _ _ hds.dropLast⟩
  exact l.nx B _ _ n _ s2 b r2 h
/-- x = {} -/
theorem sd_newD {i : Nat} (h : N.nx n (env.set i (some (.own (.dic []))))) : SD c (tAsg tDNewK (gName i)) n env N := fun B H σ b r D l p hp =>
  l.nx _ _ _ n _ (step_give hp _) (fun a z => .inl (b a z)) (r.give i hp (.dK []) (.dic []) ⟨[], upd_same, .nil⟩) h
/-- x[ti] = te, x an own dict -/
theorem sd_oput {i : Nat} {es : List (Key × Dv)} (hi : env[i]? = some (some (.own (.dic es)))) (h : ED c te n env fun n1 d => ED c ti n1 env fun n2 e => ∃ k, keyD e = some k ∧ es.length < sizeLine ∧ N.nx n2 (env.set i (some (.own (.dic (putD es k d)))))) :
    SD c (sDPut (tVar i) ti te) n env N := fun B H σ b r D l => by
  refine h B H σ r _ fun v H1 n1 d r1 e1 h1 k1 => ?_
  obtain ⟨a, e, hb, nk, he, xs, hx, hd⟩ := r1.own i _ hi
  refine ⟨.ref a, e, k1 B H1 σ r1 _ fun w H2 n2 dk r2 e2 h2 ⟨k, ek, sz, k2⟩ => ?_⟩
  have hu : w = kV k := by cases h2 <;> simp only [keyD] at ek <;> cases ek <;> rfl
  subst hu
  obtain ⟨a', e', hb', nk', he', xs', hx', hd'⟩ := r2.own i _ hi
  rw [e] at e'
  cases e'
  refine ⟨a, _, rfl, .inl ⟨xs', k, hx', rfl, by rw [hd'.length]; exact sz, rfl⟩, ?_⟩
  obtain ⟨r3, s3⟩ := r2.turn hi e (.dK (putK xs' k v)) (.dic (putD es k d)) ⟨_, upd_same, DtK.move (keep_turn hb) (fun _ z => .inl z) _ _ (hd'.put k (r1.dt e2 h1))⟩
  exact l.nx B _ σ n2 _ ((Step.ext r (e1.trans e2)).trans s3) b r3 k2
end
end DL

set_option Elab.async false
set_option linter.all false
set_option maxRecDepth 100000
set_option maxHeartbeats 2000000
/-! D24: instances: made by __init__, attributes, methods, == by __eq__. -/
namespace DL
open PySem PySem.Spec PyProof.Rows L2

/-! ### the machine's side, where no guard runs -/
section
variable {X : Cx} {CX : CXT} {k : Nat} {f C : Addr} {fd : FuncData} {ps ks : List Str} {sp : Sp} {E : XK} {x m : Str} {p pos apos : Pos} {e o : Expr} {es : List Expr} {kws : List Keyword} {ta : TE} {t tk : TA}
theorem make_guards {A : Around} (h : A.guards = some []) (C : Addr) (us : List Value) (kw : List (Str × Value)) : (A.under (.builtin "type.__call__" ⟨.ref C :: us, kw⟩)).guards = some [] := by
  show pushGuards (Code.guards (.builtin "type.__call__" ⟨.ref C :: us, kw⟩)) A.guards = some []
  rw [h]
  rfl
theorem run_makeG {pins : List (Addr × Obj)} {σ : L2.St} {H : Hp} {s : Shared} {Q : VK} {us : List Value} {vs : List V} (M : Mk X.K C f) (F : FnG X.prog X.w X.K X.mg X.base CX k f fd ps sp) (hgd : X.A.guards = some []) (hr : Room (k + 1) X.A) (hb : Binds X.K fd ps [])
    (hx : Passes CX X E) (I : Inv X pins σ H s) (r : Vals vs us)
    (h : ∀ x dx, H x = none → H dx = none → dx ≠ x → sp (.ref x :: vs) (upd (upd H dx (.own x)) x (.ins C dx [])) (fun v H2 => v = .non ∧ Q (.ref x) H2) E) :
    wpAny (model X.prog X.w) X.A (call (.ref C) us) (EP X pins σ Q) X.xe s := by
  have hq := h (s.heap.objs.size + 1) s.heap.objs.size (I.hok.fresh (Nat.le_succ _)) (I.hok.fresh (Nat.le_refl _)) (Nat.ne_of_lt (Nat.lt_succ_self _))
  have I2 := Inv.made (C := C) I
  have r2 : Vals (V.ref (s.heap.objs.size + 1) :: vs) (Value.ref (s.heap.objs.size + 1) :: us) := .cons rfl r
  have hl : (Value.ref (s.heap.objs.size + 1) :: us).length = ps.length := by
    have e := r2.length
    rw [F.len _ _ _ _ hq] at e
    exact e.symm
  have b := hb _ (Value.ref (s.heap.objs.size + 1) :: us) I2.kIn (by rw [List.append_nil]; exact hl)
  rw [List.append_nil] at b
  refine wpAny_call (make_map (f := f) I.kIn M.makes M.init (beq_iff_eq.mp M.fn) (codeAny_mono (F.go _ X.stack _ _ ⟨Value.ref (s.heap.objs.size + 1) :: us, []⟩ (Value.ref (s.heap.objs.size + 1) :: us) _ _ E (make_guards hgd C us []) (hr.make C us [])
    (I2.env0.make C us []) b r2 hq) fun r s' hq' => ?_))
  cases r with
  | error e => exact hx pins σ _ _ e s' I2 hq'
  | ok fl =>
    cases fl with
    | ret u =>
      obtain ⟨v, H', I3, rv, ev, q3⟩ := I2.after hq'
      subst ev
      exact ⟨rv, ⟨V.ref (s.heap.objs.size + 1), H', I3, rfl, q3⟩⟩
    | next => exact False.elim hq'
    | brk => exact False.elim hq'
    | cont => exact False.elim hq'
theorem pe_makeG (M : Mk X.K C f) (F : FnG X.prog X.w X.K X.mg X.base CX k f fd ps sp) (hgd : X.A.guards = some []) (hr : Room (k + 1) X.A) (hg : Gl X x) (hm : X.mg x = some (.ref C)) (hb : Binds X.K fd ps []) (hx : Passes CX X E)
    (ha : PA X (e :: es) t) (hdb : (x == ("__debug__" : Str)) = false := by decide) (he : starEach (e :: es) X.env = (false, eval e X.env) :: starEach es X.env := by rfl) (hpl : (backTo pos (starEach es X.env)).any (·.1) = false := by rfl) :
    PE X (.Call (.Name x p) (e :: es) [] pos) (tMake C sp [] E t) := by
  refine ⟨fun pins s σ H Q I h => ?_⟩
  refine wpAny_Call_Name_kw (ld_glob I hg hm ?_ hdb)
  refine PySem.W.callWith_K (h₀ := X.base) I.ok.mod.kin M.kp (thn (ha.run pos pins s σ H _ I h) fun us s1 ⟨vs, H1, I1, r, q⟩ => ⟨I1.kIn, ?_⟩) he hpl
  refine run_makeG M F hgd hr hb hx I1 r ?_
  simpa only [List.append_nil] using q
/-- o.m(e, ..) -/
theorem pe_methG {pl : Sem Bool} (he : PE X o ta) (c : Cls X.K C) (hm : Meth X.K C m f) (F : FnG X.prog X.w X.K X.mg X.base CX k f fd ps sp) (hgd : X.A.guards = some []) (hr : Room k X.A) (hb : Binds X.K fd ps []) (hx : Passes CX X E) (ha : PA X (e :: es) t)
    (hst : starEach (e :: es) X.env = (false, eval e X.env) :: starEach es X.env := by rfl) (hpl : (backTo pos (starEach es X.env)).any (·.1) = false := by rfl)
    (ht : eval (.Call (.Attribute o m apos) (e :: es) [] pos) X.env = (do
      let ov ← eval o X.env
      standAt apos.atName
      let (f, first) ← holding [ov] (getMethod ov m pl)
      callWith pos f first (backTo pos (starEach (e :: es) X.env)) (backToKw pos (keywordEach [] X.env))) := by rfl) :
    PE X (.Call (.Attribute o m apos) (e :: es) [] pos) (tMeth C m sp [] E ta t) := by
  refine ⟨fun pins s σ H Q I h => ?_⟩
  refine PySem.W.methodCall_KW (pl := pl) (thn (he.run pins s σ H _ I h) fun u s1 ⟨x, H1, I1, rx, a, dx, fs, ex, ea, l, q⟩ => ?_) ht
  subst ex
  obtain rfl : u = Value.ref a := rx
  refine getmeth_ok I1 ea c hm l ?_
  refine PySem.W.callWith_K (first := [.ref a]) (h₀ := X.base) I.ok.mod.kin hm.kp (thn (ha.run pos pins s1 σ H1 _ I1 q) fun us s2 ⟨vs, H2, I2, r, q2⟩ => ⟨I2.kIn, ?_⟩) hst hpl
  have q3 : sp (.ref a :: vs) H2 Q E := by simpa only [List.append_nil] using q2
  have hl : (Value.ref a :: us).length = ps.length := by
    have := F.len _ _ _ _ q3
    rw [← this]
    simp [r.length]
  have b := hb s2 (.ref a :: us) I2.kIn (by rw [List.append_nil]; exact hl)
  rw [List.append_nil] at b
  exact runG (args := ⟨.ref a :: us, []⟩) (vs := .ref a :: vs) F hgd hr hx I2 b (.cons rfl r) q3
/-- o.m() -/
theorem pe_methG0 {pl : Sem Bool} (he : PE X o ta) (c : Cls X.K C) (hm : Meth X.K C m f) (F : FnG X.prog X.w X.K X.mg X.base CX k f fd ps sp) (hgd : X.A.guards = some []) (hr : Room k X.A) (hb : Binds X.K fd ps []) (hx : Passes CX X E)
    (ht : eval (.Call (.Attribute o m apos) [] [] pos) X.env = (do
      let ov ← eval o X.env
      standAt apos.atName
      let (f, first) ← holding [ov] (getMethod ov m pl)
      callWith pos f first (backTo pos (starEach [] X.env)) (backToKw pos (keywordEach [] X.env))) := by rfl) :
    PE X (.Call (.Attribute o m apos) [] [] pos) (tMeth C m sp [] E ta tNil) := by
  refine ⟨fun pins s σ H Q I h => ?_⟩
  refine PySem.W.methodCall_KW (pl := pl) (thn (he.run pins s σ H _ I h) fun u s1 ⟨x, H1, I1, rx, a, dx, fs, ex, ea, l, q⟩ => ?_) ht
  subst ex
  obtain rfl : u = Value.ref a := rx
  refine getmeth_ok I1 ea c hm l ?_
  have hl : ([Value.ref a] : List Value).length = ps.length := by
    have := F.len _ _ _ _ (show sp [.ref a] H1 Q E from q)
    rw [← this]; rfl
  have b := hb s1 [.ref a] I1.kIn (by rw [List.append_nil]; exact hl)
  rw [List.append_nil] at b
  exact PySem.W.callWith_K0 (first := [.ref a]) I1.kIn hm.kp (runG (args := ⟨[.ref a], []⟩) (vs := [.ref a]) F hgd hr hx I1 b (.cons rfl .nil) q)
/-- x == y by an own __eq__, y of the same class -/
def rEqI (C : Addr) (sp : Sp) (E : XK) : R2 := fun x y H Q => ∃ a b dx dy fs gs, x = .ref a ∧ y = .ref b ∧ H a = some (.ins C dx fs) ∧ H b = some (.ins C dy gs) ∧ sp [x, y] H (fun v H' => ∃ r, v = .bl r ∧ Q v H') E
theorem op_eqI (hs : PySem.W.findIn X.K (.ref C) "__eq__" = some (some (.ref f))) (hf : PySem.W.isFn X.K (.ref f) = true) (F : FnG X.prog X.w X.K X.mg X.base CX k f fd ps sp) (hgd : X.A.guards = some []) (hr : Room k X.A) (hb : Binds X.K fd ps []) (hx : Passes CX X E) :
    OpR X (compareOp .Eq) (rEqI C sp E) := by
  intro pins s σ H x y v u Q I rx ry hq
  obtain ⟨a, b, dx, dy, fs, gs, rfl, rfl, ha, hb', q⟩ := hq
  cases rx
  cases ry
  show wpAny (model X.prog X.w) X.A (richCompare .Eq (.ref a) (.ref b)) (EP X pins σ Q) X.xe s
  obtain ⟨mA, J, _⟩ := ins_get I.hok ha
  obtain ⟨mB, J', _⟩ := ins_get I.hok hb'
  obtain ⟨od, J, _⟩ := J.look
  obtain ⟨od', J', _⟩ := J'.look
  obtain ⟨m, hF⟩ := I.fr
  refine PySem.W.cmp_K (op := .Eq) (tb := .ref C) hr.units0 hF I.ok.mod.kin J J'.type (by simp [PySem.W.notFirst]) hs hf ?_
  have hl := F.len _ _ _ _ q
  have bb := hb s [.ref a, .ref b] I.kIn (by simpa using hl)
  have r2 : Vals [V.ref a, V.ref b] [Value.ref a, Value.ref b] := .cons rfl (.cons rfl .nil)
  refine wpAny_mono (runG (args := ⟨[.ref a, .ref b], []⟩) F hgd hr hx I (by simpa using bb) r2 q) (fun w s' z => ?_) fun _ _ z => z
  obtain ⟨w', H', I', rw', r, ew, q'⟩ := z
  subst ew
  cases rw'
  exact ⟨.bl r, H', I', rfl, q'⟩
end
theorem PE.imp {X : Cx} {e : Expr} {t t' : TE} (h : PE X e t) (k : ∀ σ H Q, t' σ H Q → t σ H Q) : PE X e t' := ⟨fun pins s σ H Q I q => h.run pins s σ H Q I (k σ H Q q)⟩
theorem PS.imp {X : Cx} {e : Stmt} {t t' : TS} (h : PS X e t) (k : ∀ D σ H, t' D σ H → t D σ H) : PS X e t' := ⟨fun pins s σ H D I q => h.run pins s σ H D I (k D σ H q)⟩
theorem OpR.imp {X : Cx} {o : Value → Value → Sem Value} {r r' : R2} (h : OpR X o r) (k : ∀ x y H Q, r' x y H Q → r x y H Q) : OpR X o r' := fun pins s σ H x y v u Q I rx ry q => h pins s σ H x y v u Q I rx ry (k x y H Q q)
/-- a statement that is never reached -/
def tNever : TS := fun _ _ _ => False
theorem ps_never {X : Cx} {e : Stmt} : PS X e tNever := ⟨fun pins s σ H D I q => q.elim⟩

/-! ### over trees -/
def putFD (f : Str) (v : Dv) : List (Str × Dv) → List (Str × Dv)
  | [] => [(f, v)]
  | (g, x) :: r => if g = f then (g, v) :: r else (g, x) :: putFD f v r
section
variable {wd : Wd} {B : Addr → Prop} {K : PySem.W.Frag} {H : Hp}
theorem DtF.put {f : Str} {v : V} {d : Dv} (hv : Dt wd B K H v d) : ∀ {fs : List (Str × V)} {es : List (Str × Dv)}, DtF wd B K H fs es → DtF wd B K H (putF f v fs) (putFD f d es)
  | _, _, .nil => .cons hv .nil
  | _, _, .cons (k := g) a r => by
    unfold putF putFD
    by_cases q : g = f
    · rw [if_pos q, if_pos q]; exact .cons hv r
    · rw [if_neg q, if_neg q]; exact .cons a (DtF.put hv r)
theorem DtF.lk {f : Str} {d : Dv} : ∀ {fs : List (Str × V)} {es : List (Str × Dv)}, DtF wd B K H fs es → es.lookup f = some d → ∃ v, fs.lookup f = some v ∧ Dt wd B K H v d
  | _, _, .nil, h => by simp at h
  | _, _, .cons (k := g) a r, h => by
    rw [List.lookup_cons] at h ⊢
    cases q : (f == g) with
    | true =>
      rw [q] at h
      cases h
      exact ⟨_, rfl, a⟩
    | false =>
      rw [q] at h
      exact DtF.lk r h
theorem DtF.lkN {f : Str} : ∀ {fs : List (Str × V)} {es : List (Str × Dv)}, DtF wd B K H fs es → es.lookup f = none → fs.lookup f = none
  | _, _, .nil, h => rfl
  | _, _, .cons (k := g) a r, h => by
    rw [List.lookup_cons] at h ⊢
    cases q : (f == g) with
    | true => rw [q] at h; cases h
    | false =>
      rw [q] at h
      exact DtF.lkN r h
theorem DtF.length : ∀ {fs : List (Str × V)} {es : List (Str × Dv)}, DtF wd B K H fs es → fs.length = es.length
  | _, _, .nil => rfl
  | _, _, .cons _ r => congrArg Nat.succ r.length
end
section
variable {c : Cn} {n : Nat} {env : DL.Env} {N : DN} {ta te : TE} {t : TA} {R : Nat → Dv → Prop}
/-- o.f -/
theorem ed_fld {f : Str} (h : ED c ta n env fun n1 d => ∃ cn es v, d = .ins cn es ∧ f ∈ flds cn ∧ es.lookup f = some v ∧ R n1 v) : ED c (tFld c.K ta f) n env R := fun B H σ r Q q =>
  h B H σ r _ fun v H1 n1 d r1 e1 h1 ⟨cn, es, w, e, hf, hl, k⟩ => by
    subst e
    cases h1 with
    | @ins _ a C dx fs _ hc hk hb hx hd =>
      obtain ⟨u, hu, hud⟩ := hd.lk hl
      exact ⟨a, C, dx, fs, u, rfl, hx, hk.c, hk.n f hf, hu, q u H1 n1 w r1 e1 hud k⟩
/-- self.f, self being made -/
theorem ed_ofld {f : Str} {i : Nat} {cn : Str} {es : List (Str × Dv)} {w : Dv} (hi : env[i]? = some (some (.own (.ins cn es)))) (hf : f ∈ flds cn) (hl : es.lookup f = some w) (k : R n w) : ED c (tFld c.K (tVar i) f) n env R := fun B H σ r Q q => by
  obtain ⟨a, e, hb, nk, he, C, dx, fs, hc, hk, hx, hd⟩ := r.own i _ hi
  obtain ⟨u, hu, hud⟩ := hd.lk hl
  exact ⟨_, e, a, C, dx, fs, u, rfl, hx, hk.c, hk.n f hf, hu, q u H n w r (Ext0.refl _ _) hud k⟩
/-- self.f = e -/
theorem sd_fset {f : Str} {i : Nat} {cn : Str} {es : List (Str × Dv)} (hi : env[i]? = some (some (.own (.ins cn es)))) (hf : f ∈ flds cn) (hl : es.length < 1000)
    (h : ED c te n env fun n1 d => N.nx n1 (env.set i (some (.own (.ins cn (putFD f d es)))))) : SD c (sFld c.K (tVar i) te f) n env N := fun B H σ b r D l => by
  refine h B H σ r _ fun v H1 n1 d r1 e1 h1 k => ?_
  obtain ⟨a, e, hb, nk, he, C, dx, fs, hc, hk, hx, hd⟩ := r1.own i _ hi
  refine ⟨_, e, a, C, dx, fs, rfl, hx, hk.c, hk.n f hf, by rw [hd.length]; exact hl, ?_⟩
  obtain ⟨r2, s2⟩ := r1.turn hi e (.ins C dx (putF f v fs)) (.ins cn (putFD f d es)) ⟨C, dx, _, hc, hk, upd_same, DtF.move (fun x o q z => by rw [upd_ne (show x ≠ a from fun y => z (by rw [y]; exact hb))]; exact q) (fun _ z => .inl z) _ _ (hd.put h1)⟩ (.inr ⟨_, _, rfl⟩)
  exact l.nx B _ σ n1 _ ((Step.ext r e1).trans s2) b r2 k

/-- __init__ -/
def spI (K : PySem.W.Frag) (mg : Str → Option Value) (cn : Str) (Cc : Ct) : Sp := fun vs H Q _ => ∃ (wd : Wd) (B : Addr → Prop) (n : Nat) (ds : List Dv) (R : Nat → Dv → Prop) (x C dx : Addr) (us : List V),
  vs = .ref x :: us ∧ wd.cm = mg ∧ mg cn = some (.ref C) ∧ ClsOk K C cn ∧ H x = some (.ins C dx []) ∧ ¬ B x ∧ WOk wd n H ∧ (∀ a, Dk wd a → B a) ∧ (∀ a, B a → H a ≠ none) ∧ DtA wd (fun a => B a ∨ a = x) K H us ds ∧ Cc n ds R ∧
  ∀ H' n' es fs dx', WOk wd n' H' → (∀ a o, H a = some o → ¬ Dk wd a → a ≠ x → H' a = some o) → H' x = some (.ins C dx' fs) → DtF wd B K H' fs es → R n' (.ins cn es) → Q .non H'
/-- C(..) -/
def tMakeD (K : PySem.W.Frag) (mg : Str → Option Value) (cn : Str) (Cc : Ct) (t : TA) : TE := fun σ H Q => ∀ C, mg cn = some (.ref C) → ClsOk K C cn → t σ H fun vs H1 => ∀ x dx, H1 x = none → H1 dx = none → dx ≠ x →
  spI K mg cn Cc (.ref x :: (vs ++ [])) (upd (upd H1 dx (.own x)) x (.ins C dx [])) (fun v H2 => v = .non ∧ Q (.ref x) H2) E0
theorem ed_make {cn : Str} {Cc : Ct} (h : AD c t n env fun n1 ds => Cc n1 ds R) : ED c (tMakeD c.K c.wd.cm cn Cc t) n env R := fun B H σ r Q q C hC hK =>
  h B H σ r _ fun vs H1 n1 ds r1 e1 h1 k1 x dx nx ndx ne => by
    rw [List.append_nil]
    have sm : Same H1 (upd (upd H1 dx (.own x)) x (.ins C dx [])) := fun a o e => by
      rw [upd_ne (ne_of_none e nx), upd_ne (ne_of_none e ndx)]
      exact e
    have nB : ¬ B x := r1.new nx
    refine ⟨c.wd, B, n1, ds, R, x, C, dx, vs, rfl, rfl, hC, hK, upd_same, nB, r1.wok.same sm, r1.dk, fun a hb => ?_, DtA.move (fun a o e _ => sm a o e) (fun a z => z.imp id fun y => by rw [y]; exact nx) ds vs h1, k1, fun H' n' es fs dx' w kp hx hd hR => ⟨rfl, ?_⟩⟩
    · match e : H1 a with
      | none => exact absurd e (r1.live a hb)
      | some o => rw [sm a o e]; exact nofun
    · have ee : Ext0 c.wd H1 H' := fun a o e z => kp a o (sm a o e) z (ne_of_none e nx)
      exact q _ H' n' _ (r1.ext ee w) (e1.trans ee) (.ins hC hK nB hx hd) hR
/-- o.m(..) -/
def tMethD (mg : Str → Option Value) (cn m : Str) (sp : Sp) (ta : TE) (t : TA) : TE := fun σ H Q => ∀ C, mg cn = some (.ref C) → ta σ H fun x H1 => ∃ a dx fs, x = .ref a ∧ H1 a = some (.ins C dx fs) ∧ fs.lookup m = none ∧
  t σ H1 fun vs H2 => sp (x :: (vs ++ [])) H2 Q E0
theorem ed_meth {cn m : Str} {Cc : Ct} (h : ED c ta n env fun n1 d => ∃ es, d = .ins cn es ∧ es.lookup m = none ∧ AD c t n1 env fun n2 ds => Cc n2 (d :: ds) R) : ED c (tMethD c.wd.cm cn m (spD c.K c.wd.cm Cc) ta t) n env R := fun B H σ r Q q C hC =>
  h B H σ r _ fun v H1 n1 d r1 e1 h1 ⟨es, e, hm, k⟩ => by
    subst e
    have h1' := h1
    cases h1 with
    | @ins _ a C' dx fs _ hc hk hb hx hd =>
      rw [hC] at hc
      cases hc
      refine ⟨a, dx, fs, rfl, hx, hd.lkN hm, k B H1 σ r1 _ fun vs H2 n2 ds r2 e2 h2 k2 => ?_⟩
      refine ⟨c.wd, B, n2, .ins cn es :: ds, R, rfl, r2.wok, r2.dk, r2.live, .cons (r1.dt e2 h1') (by rw [List.append_nil]; exact h2), k2, fun v H3 n3 d w3 e3 h3 k3 => q v H3 n3 d (r2.ext e3 w3) ((e1.trans e2).trans e3) h3 k3⟩
/-- o == u by __eq__ -/
def rEqD (mg : Str → Option Value) (cn : Str) (sp : Sp) : R2 := fun x y H Q => ∀ C, mg cn = some (.ref C) → rEqI C sp E0 x y H Q
/-- x == y, an own == that may do what a def may do -/
theorem ed_eqI {tb : TE} {cn : Str} {Cc : Ct} (h : ED c ta n env fun n1 d => ED c tb n1 env fun n2 e => ∃ es es', d = .ins cn es ∧ e = .ins cn es' ∧ Cc n2 [d, e] fun n3 z => ∃ b, z = .bl b ∧ R n3 (.bl b)) :
    ED c (tOp (rEqD c.wd.cm cn (spD c.K c.wd.cm Cc)) ta tb) n env R := fun B H σ r Q q =>
  h B H σ r _ fun v H1 n1 d r1 e1 h1 k1 => k1 B H1 σ r1 _ fun u H2 n2 e r2 e2 h2 ⟨es, es', ed, ee, k2⟩ C hC => by
    subst ed ee
    have h1' := r1.dt e2 h1
    have h1'' := h1'
    have h2' := h2
    cases h1' with
    | @ins _ a C' dx fs _ hc hk hb hx hd =>
      cases h2 with
      | @ins _ b C'' dy gs _ hc2 hk2 hb2 hx2 hd2 =>
        rw [hC] at hc hc2
        cases hc
        cases hc2
        refine ⟨a, b, dx, dy, fs, gs, rfl, rfl, hx, hx2, c.wd, B, n2, [.ins cn es, .ins cn es'], _, rfl, r2.wok, r2.dk, r2.live, .cons h1'' (.cons h2' .nil), k2, fun v H3 n3 d w3 e3 h3 k3 => ?_⟩
        obtain ⟨b, rfl, k3⟩ := k3
        cases h3
        exact ⟨b, rfl, q _ H3 n3 _ (r2.ext e3 w3) ((e1.trans e2).trans e3) (.bl b) k3⟩
end
section
variable {X : Cx} {e : Expr} {C : Addr} {cn m : Str} {ta : TE} {t : TA}
theorem pe_mkD {Cc : Ct} (hC : X.mg cn = some (.ref C)) (hK : ClsOk X.K C cn) (h : PE X e (tMake C (spI X.K X.mg cn Cc) [] E0 t)) : PE X e (tMakeD X.K X.mg cn Cc t) := PE.imp h fun σ H Q z => z C hC hK
theorem pe_mtD {sp : Sp} (hC : X.mg cn = some (.ref C)) (h : PE X e (tMeth C m sp [] E0 ta t)) : PE X e (tMethD X.mg cn m sp ta t) := PE.imp h fun σ H Q z => z C hC
theorem op_eqD {o : Value → Value → Sem Value} {sp : Sp} (hC : X.mg cn = some (.ref C)) (h : OpR X o (rEqI C sp E0)) : OpR X o (rEqD X.mg cn sp) := OpR.imp h fun x y H Q z => z C hC
end
/-- THE RULE for an __init__ -/
theorem fnI {P : Program} {w : World} {K : PySem.W.Frag} {mg : Str → Option Value} {base : Heap} {k : Nat} {f : Addr} {fd : FuncData} {ps : List Str} {x qual cn : Str} {st : Stmt} {NN : List Str} {Cc : Ct}
    (F : Fun K x qual st f fd) (S : FnScope NN ps (defScope st)) (len : ∀ n ds R, Cc n ds R → ds.length + 1 = ps.length)
    (hb : ∀ (cdv : Value) (A : Around) (outer : List PySem.Env) (s : Shared) (H : Hp) (E : XK), A.guards = some [] →
      Room k (A.deeper (PyProof.Rows.envOfC qual (defScope st) s.heap.objs.size f cdv)) →
      ∃ t, PSs (cxOf CX0 P w K mg base NN qual (defScope st) f cdv A outer s H E).nox (defBody st) t ∧
        ∀ n ds R, Cc n ds R → ∀ c : Cn, c.K = K → c.wd.cm = mg → SD c t n (some (.own (.ins cn [])) :: startD (NN.length - 1) ds) { nx := fun n env => ∃ es, env[0]? = some (some (.own (.ins cn es))) ∧ R n (.ins cn es), rt := fun _ _ => False }) :
    FnG P w K mg base CX0 (k + 1) f fd ps (spI K mg cn Cc) := by
  refine okG F S (fun vs H Q E ⟨wd, B, n, ds, R, x, C, dx, us, e, _, _, _, _, _, _, _, _, hd, hC, _⟩ => by rw [e, List.length_cons, hd.length]; exact len n ds R hC) fun cdv A outer s H vs Q E hg hr hsp => ?_
  obtain ⟨t, ht, hq⟩ := hb cdv A outer s H E hg hr
  obtain ⟨wd, B, n, ds, R, x, C, dx, us, rfl, hcm, hmg, hcl, hx, nB, hw, hk, lv, hd, hC, hQ⟩ := hsp
  refine ⟨t, ht.nox, ?_⟩
  let He : Hp := fun a => if a = x then none else H a
  have He_ne : ∀ a, a ≠ x → He a = H a := fun a z => if_neg z
  have He_x : He x = none := if_pos rfl
  have lv' : ∀ a, B a → He a ≠ none := fun a z => by
    rw [He_ne a fun q => nB (q ▸ z)]
    exact lv a z
  let c : Cn := ⟨wd, B, K, He, lv', fun a => B a ∨ a = x, H, x⟩
  have nk : ¬ Dk wd x := fun z => nB (hk x z)
  have len1 : NN.length - (us.length + 1) = NN.length - 1 - ds.length := by rw [hd.length]; omega
  have tail : ∀ (i : Nat) (d : Dx), (startD (NN.length - 1) ds)[i]? = some (some d) → ∃ d' v, d = .fz d' ∧ (us.map some ++ List.replicate (NN.length - (us.length + 1)) none)[i]? = some (some v) ∧ Dt wd (fun a => B a ∨ a = x) K H v d' := fun i d hi => by
    unfold startD at hi
    by_cases q : i < ds.length
    · rw [List.getElem?_append_left (by simpa using q), List.getElem?_map] at hi
      cases e : ds[i]? with
      | none => rw [e] at hi; cases hi
      | some d' =>
        rw [e] at hi
        cases hi
        obtain ⟨v, h1, h2⟩ := hd.get e
        refine ⟨d', v, rfl, ?_, h2⟩
        rw [List.getElem?_append_left (by rw [List.length_map, hd.length]; exact q), List.getElem?_map, h1]
        rfl
    · rw [List.getElem?_append_right (by simpa using q)] at hi
      have := List.mem_of_getElem? hi
      simp at this
  have r0 : Rel c (fun a => B a ∨ a = x) n H (L2.start NN (.ref x :: us)) (some (.own (.ins cn [])) :: startD (NN.length - 1) ds) := {
    sub := fun a z => .inl z
    stp := Step.refl _ _
    len := by
      simp only [L2.start, startD, List.length_cons, List.length_append, List.length_map, List.length_replicate]
      have := hd.length
      omega
    wok := hw
    dk := fun a z => .inl (hk a z)
    live := fun a z => z.elim (lv a) fun y => by rw [y, hx]; exact nofun
    ent := fun a o h _ => by
      have h : He a = some o := h
      by_cases q : a = x
      · rw [q, He_x] at h; cases h
      · rw [He_ne a q] at h; exact h
    fz := fun i d hi => by
      match i, hi with
      | 0, hi => cases hi
      | i + 1, hi =>
        obtain ⟨d', v, e, h1, h2⟩ := tail i _ hi
        cases e
        exact ⟨v, h1, h2⟩
    own := fun i o hi => by
      match i, hi with
      | 0, hi =>
        cases hi
        exact ⟨x, rfl, .inr rfl, nk, He_x, C, dx, [], by rw [hcm]; exact hmg, hcl, hx, .nil⟩
      | i + 1, hi =>
        obtain ⟨d', v, e, h1, h2⟩ := tail i _ hi
        cases e
    inj := fun i j o u a hi hj _ _ => by
      match i, j, hi, hj with
      | 0, 0, _, _ => rfl
      | i + 1, _, hi, _ =>
        obtain ⟨d', v, e, h1, h2⟩ := tail i _ hi
        cases e
      | 0, j + 1, _, hj =>
        obtain ⟨d', v, e, h1, h2⟩ := tail j _ hj
        cases e
    slf := fun i cn' es hi => by
      match i, hi with
      | 0, _ => rfl
      | i + 1, hi =>
        obtain ⟨d', v, e, h1, h2⟩ := tail i _ hi
        cases e }
  refine hq n ds R hC c rfl hcm _ H _ (fun a z => .inl z) r0 _ ⟨fun B2 H2 σ2 n2 env2 s2 b2 r2 k2 => ?_, fun _ _ _ _ _ _ _ _ z => z.elim, fun _ _ _ _ _ _ _ _ z => z.elim, fun _ _ _ _ _ _ _ z => z.elim⟩
  obtain ⟨es, he, hR⟩ := k2
  obtain ⟨a, ha, hb2, _, _, C', dx', fs, hc', hk', hx', hd'⟩ := r2.own 0 _ he
  have hs := r2.slf 0 cn es he
  rw [ha] at hs
  cases hs
  have hc2 : mg cn = some (.ref C') := hcm ▸ hc'
  rw [hmg] at hc2
  cases hc2
  exact hQ H2 n2 es fs dx' r2.wok (fun a o e z nx => r2.ent a o (show He a = some o by rw [He_ne a nx]; exact e) z) hx' (DtF.move (fun _ _ e _ => e) (fun a z => .inl (r2.sub a z)) _ _ hd') hR
end DL

set_option Elab.async false
set_option linter.all false
set_option maxRecDepth 100000
set_option maxHeartbeats 2000000
/-! D25: dicts by tuples; in; isinstance of own classes; dicts of the top. -/
namespace DL
open PySem PySem.Spec PyProof.Rows L2
def keysOf : List Dv → Option (List Key)
  | [] => some []
  | d :: ds => match keyD d with
    | some k => match keysOf ds with
      | some l => some (k :: l)
      | none => none
    | none => none
def keyT : Dv → Option (List Key)
  | .tup ds => keysOf ds
  | _ => none
def putL (es : List (List Key × Dv)) (k : List Key) (d : Dv) : List (List Key × Dv) := if es.any (fun kv => decide (kv.1 = k)) then es.map (fun kv => if kv.1 = k then (kv.1, d) else kv) else es ++ [(k, d)]
def lkL (es : List (List Key × Dv)) (k : List Key) : Option Dv := (es.find? fun kv => decide (kv.1 = k)).map (·.2)
section
variable {wd : Wd} {B : Addr → Prop} {K : PySem.W.Frag} {H : Hp}
theorem key_val {v : V} {d : Dv} {k : Key} (h : Dt wd B K H v d) (e : keyD d = some k) : v = kV k := by cases h <;> simp only [keyD] at e <;> cases e <;> rfl
theorem keys_val : ∀ {vs : List V} {ds : List Dv} {k : List Key}, DtA wd B K H vs ds → keysOf ds = some k → vs = k.map kV
  | _, _, _, .nil, e => by cases e; rfl
  | _, d :: ds, k, .cons a r, e => by
    simp only [keysOf] at e
    split at e
    · rename_i q
      split at e
      · rename_i q2
        cases e
        rw [key_val a q, keys_val r q2]; rfl
      · cases e
    · cases e
theorem keyT_ref {v : V} {d : Dv} {k : List Key} (h : Dt wd B K H v d) (e : keyT d = some k) : ∃ b, v = .ref b ∧ H b = some (.tup (k.map kV)) := by
  cases h with
  | tup q r =>
    rw [← keys_val r e]
    exact ⟨_, rfl, q.2⟩
  | _ => cases e
theorem DtL.any (k : List Key) : ∀ {vs : List (List Key × V)} {ds : List (List Key × Dv)}, DtL wd B K H vs ds → (vs.any fun kv => decide (kv.1 = k)) = ds.any fun kv => decide (kv.1 = k)
  | _, _, .nil => rfl
  | _, _, .cons _ r => by rw [List.any_cons, List.any_cons, DtL.any k r]
theorem DtL.append : ∀ {vs us : List (List Key × V)} {ds es : List (List Key × Dv)}, DtL wd B K H vs ds → DtL wd B K H us es → DtL wd B K H (vs ++ us) (ds ++ es)
  | _, _, _, _, .nil, h => h
  | _, _, _, _, .cons a r, h => .cons a (r.append h)
theorem DtL.maps {v : V} {d : Dv} (k : List Key) (hd : Dt wd B K H v d) : ∀ {vs : List (List Key × V)} {ds : List (List Key × Dv)}, DtL wd B K H vs ds →
    DtL wd B K H (vs.map fun kv => if kv.1 = k then (kv.1, v) else kv) (ds.map fun kv => if kv.1 = k then (kv.1, d) else kv)
  | _, _, .nil => .nil
  | _, _, .cons (k := k') a r => by
    rw [List.map_cons, List.map_cons]
    by_cases e : k' = k
    · simp only [e, if_true]
      exact .cons hd (DtL.maps k hd r)
    · simp only [e, if_false]
      exact .cons a (DtL.maps k hd r)
theorem DtL.put {v : V} {d : Dv} {vs : List (List Key × V)} {ds : List (List Key × Dv)} (h : DtL wd B K H vs ds) (k : List Key) (hd : Dt wd B K H v d) : DtL wd B K H (putK vs k v) (putL ds k d) := by
  unfold putK putL
  rw [h.any k]
  split
  · exact h.maps k hd
  · exact h.append (.cons hd .nil)
theorem DtL.length : ∀ {vs : List (List Key × V)} {ds : List (List Key × Dv)}, DtL wd B K H vs ds → vs.length = ds.length
  | _, _, .nil => rfl
  | _, _, .cons _ r => congrArg Nat.succ r.length
theorem DtL.lk (k : List Key) : ∀ {vs : List (List Key × V)} {ds : List (List Key × Dv)} {d : Dv}, DtL wd B K H vs ds → lkL ds k = some d → ∃ v, valV vs k = some v ∧ Dt wd B K H v d
  | _, _, _, .nil, h => by simp [lkL] at h
  | _, _, d, .cons (k := k') (v := v') a r, h => by
    unfold lkL at h
    unfold valV
    rw [List.find?_cons] at h ⊢
    by_cases e : k' = k
    · simp only [e, decide_true] at h ⊢
      cases h
      exact ⟨_, rfl, a⟩
    · simp only [e, decide_false] at h ⊢
      exact DtL.lk k r h
theorem DtL.lkN (k : List Key) : ∀ {vs : List (List Key × V)} {ds : List (List Key × Dv)}, DtL wd B K H vs ds → lkL ds k = none → valV vs k = none
  | _, _, .nil, h => rfl
  | _, _, .cons (k := k') (v := v') a r, h => by
    unfold lkL at h
    unfold valV
    rw [List.find?_cons] at h ⊢
    by_cases e : k' = k
    · simp only [e, decide_true] at h
      cases h
    · simp only [e, decide_false] at h ⊢
      exact DtL.lkN k r h
theorem DtK.lkN (k : Key) : ∀ {vs : List (Key × V)} {ds : List (Key × Dv)}, DtK wd B K H vs ds → lkD ds k = none → valV vs k = none
  | _, _, .nil, h => rfl
  | _, _, .cons (k := k') (v := v') a r, h => by
    unfold lkD at h
    unfold valV
    rw [List.find?_cons] at h ⊢
    by_cases e : k' = k
    · simp only [e, decide_true] at h
      cases h
    · simp only [e, decide_false] at h ⊢
      exact DtK.lkN k r h
end
/-- what stands at a key: of a dict by ints and texts, of one by tuples -/
def lkV (d dk : Dv) : Option (Option Dv) := match d with
  | .dic es => match keyD dk with
    | some k => some (lkD es k)
    | none => match es with
      | [] => (keyT dk).map fun _ => none
      | _ :: _ => none
  | .dct es => match keyT dk with
    | some k => some (lkL es k)
    | none => none
  | _ => none
section
variable {c : Cn} {n : Nat} {env : DL.Env} {N : DN} {td ty te ti : TE} {R : RP}
/-- d[k], k there -/
theorem dget_of {wd : Wd} {B : Addr → Prop} {K : PySem.W.Frag} {H : Hp} {x y : V} {d dk w : Dv} (hx : Dt wd B K H x d) (hy : Dt wd B K H y dk) (h : lkV d dk = some (some w)) : ∃ a v, x = .ref a ∧ DGet H a y (some v) ∧ Dt wd B K H v w := by
  cases hx with
  | dic nb ha hd =>
    simp only [lkV] at h
    split at h
    · rename_i q
      obtain ⟨v, h1, h2⟩ := hd.lk _ (Option.some.inj h)
      exact ⟨_, v, rfl, .inl ⟨_, _, .inl ha, key_val hy q, h1.symm⟩, h2⟩
    · split at h
      · cases q : keyT dk <;> rw [q] at h <;> cases h
      · cases h
  | dct nb ha hd =>
    simp only [lkV] at h
    split at h
    · rename_i q
      obtain ⟨v, h1, h2⟩ := hd.lk _ (Option.some.inj h)
      obtain ⟨b, rfl, hb⟩ := keyT_ref hy q
      exact ⟨_, v, rfl, .inr ⟨_, _, b, .inl ha, rfl, hb, h1.symm⟩, h2⟩
    · cases h
  | _ => cases h
/-- k in d, not the empty dict by tuples -/
theorem dhas_of {wd : Wd} {B : Addr → Prop} {K : PySem.W.Frag} {H : Hp} {x y : V} {d dk : Dv} {o : Option Dv} (hx : Dt wd B K H x d) (hy : Dt wd B K H y dk) (h : lkV d dk = some o) (hk : ∀ es, d = .dic es → (keyD dk).isSome = true) : ∃ a o', x = .ref a ∧ DGet H a y o' ∧ o'.isSome = o.isSome := by
  cases hx with
  | @dic _ kvs es nb ha hd =>
    simp only [lkV] at h
    split at h
    · rename_i q
      cases h
      refine ⟨_, valV _ _, rfl, .inl ⟨_, _, .inl ha, key_val hy q, rfl⟩, ?_⟩
      rename_i k
      cases z : lkD es k with
      | none => rw [hd.lkN k z]; rfl
      | some w => obtain ⟨v, h1, h2⟩ := hd.lk k z; rw [h1]; rfl
    · rename_i q
      have := hk _ rfl
      rw [q] at this
      cases this
  | @dct _ kvs es nb ha hd =>
    simp only [lkV] at h
    split at h
    · rename_i q
      cases h
      obtain ⟨b, rfl, hb⟩ := keyT_ref hy q
      refine ⟨_, valV _ _, rfl, .inr ⟨_, _, b, .inl ha, rfl, hb, rfl⟩, ?_⟩
      rename_i k
      cases z : lkL es k with
      | none => rw [hd.lkN k z]; rfl
      | some w => obtain ⟨v, h1, h2⟩ := hd.lk k z; rw [h1]; rfl
    · cases h
  | _ => cases h
theorem ed_dgetV (h : ED c td n env fun n1 d => ED c ty n1 env fun n2 dk => ∃ w, lkV d dk = some (some w) ∧ R n2 w) : ED c (tDGet td ty) n env R := fun B H σ r Q q =>
  h B H σ r _ fun v H1 n1 d r1 e1 h1 k1 => k1 B H1 σ r1 _ fun u H2 n2 dk r2 e2 h2 ⟨w, hl, k2⟩ => by
    obtain ⟨a, x, rfl, hg, hx⟩ := dget_of (r1.dt e2 h1) h2 hl
    exact ⟨a, x, rfl, hg, q x H2 n2 w r2 (e1.trans e2) hx k2⟩
def hasKey (d dk : Dv) : Option Bool := match d with
  | .dic es => match keyD dk with
    | some k => some (lkD es k).isSome
    | none => none
  | .dct es => match keyT dk with
    | some k => some (lkL es k).isSome
    | none => none
  | _ => none
theorem hasKey_lk {d dk : Dv} {b : Bool} (h : hasKey d dk = some b) : ∃ o, lkV d dk = some o ∧ o.isSome = b ∧ ∀ es, d = .dic es → (keyD dk).isSome = true := by
  cases d <;> simp only [hasKey] at h <;> try cases h
  · split at h
    · rename_i q
      cases h
      exact ⟨_, by simp only [lkV, q], rfl, fun _ _ => by rw [q]; rfl⟩
    · cases h
  · split at h
    · rename_i q
      cases h
      exact ⟨_, by simp only [lkV, q], rfl, fun _ z => nomatch z⟩
    · cases h
theorem ed_din (h : ED c ty n env fun n1 dk => ED c td n1 env fun n2 d => ∃ b, hasKey d dk = some b ∧ R n2 (.bl b)) : ED c (tDIn ty td) n env R := fun B H σ r Q q =>
  h B H σ r _ fun v H1 n1 d r1 e1 h1 k1 => k1 B H1 σ r1 _ fun u H2 n2 dk r2 e2 h2 ⟨b, hl, k2⟩ => by
    obtain ⟨o, h3, h4, h5⟩ := hasKey_lk hl
    obtain ⟨a, o', rfl, hg, ho⟩ := dhas_of h2 (r1.dt e2 h1) h3 h5
    refine ⟨a, o', rfl, hg, ?_⟩
    rw [ho, h4]
    exact q _ H2 n2 _ r2 (e1.trans e2) (.bl b) k2
theorem ed_dnin (h : ED c ty n env fun n1 dk => ED c td n1 env fun n2 d => ∃ b, hasKey d dk = some b ∧ R n2 (.bl (!b))) : ED c (tDNotIn ty td) n env R := fun B H σ r Q q =>
  h B H σ r _ fun v H1 n1 d r1 e1 h1 k1 => k1 B H1 σ r1 _ fun u H2 n2 dk r2 e2 h2 ⟨b, hl, k2⟩ => by
    obtain ⟨o, h3, h4, h5⟩ := hasKey_lk hl
    obtain ⟨a, o', rfl, hg, ho⟩ := dhas_of h2 (r1.dt e2 h1) h3 h5
    refine ⟨a, o', rfl, hg, ?_⟩
    rw [ho, h4]
    exact q _ H2 n2 _ r2 (e1.trans e2) (.bl (!b)) k2
/-- x[e], x an own dict by tuples -/
theorem ed_ogetT {i : Nat} {es : List (List Key × Dv)} (hi : env[i]? = some (some (.own (.dct es)))) (h : ED c te n env fun n1 e => ∃ k d, keyT e = some k ∧ lkL es k = some d ∧ R n1 d) : ED c (tDGet (tVar i) te) n env R := fun B H σ r Q q => by
  obtain ⟨a, e, hb, nk, he, xs, hx, hd⟩ := r.own i _ hi
  refine ⟨.ref a, e, h B H σ r _ fun v H1 n1 dk r1 e1 h1 ⟨k, d, ek, hat, k1⟩ => ?_⟩
  obtain ⟨b, rfl, hb2⟩ := keyT_ref h1 ek
  obtain ⟨a', e', hb', nk', he', xs', hx', hd'⟩ := r1.own i _ hi
  rw [e] at e'
  cases e'
  obtain ⟨w, hw, hwd⟩ := hd'.lk k hat
  exact ⟨a, w, rfl, .inr ⟨_, k, b, .inl hx', rfl, hb2, hw.symm⟩, q w H1 n1 d r1 e1 hwd k1⟩
/-- e in x, x own -/
theorem ed_odin {i : Nat} {o : Ob} (hi : env[i]? = some (some (.own o))) (h : ED c te n env fun n1 e => ∃ b, hasKey (obD o) e = some b ∧ R n1 (.bl b)) : ED c (tDIn te (tVar i)) n env R := fun B H σ r Q q => by
  refine h B H σ r _ fun v H1 n1 dk r1 e1 h1 ⟨b, hl, k1⟩ => ?_
  obtain ⟨a, e, hb, he, hk, r'⟩ := r1.freezeO hi
  obtain ⟨v', ev, hd⟩ := r'.fz i (obD o) (by rw [List.getElem?_set_self (List.getElem?_eq_some_iff.mp hi).1])
  rw [e] at ev
  cases ev
  obtain ⟨o2, h3, h4, h5⟩ := hasKey_lk hl
  obtain ⟨a', o', ea, hg, ho⟩ := dhas_of hd (Dt.move (fun _ _ e _ => e) (fun x z => .inl z.1) dk v h1) h3 h5
  cases ea
  refine ⟨_, e, a, o', rfl, hg, ?_⟩
  rw [ho, h4]
  exact q _ H1 n1 _ r1 e1 (.bl b) k1
theorem ed_odnin {i : Nat} {o : Ob} (hi : env[i]? = some (some (.own o))) (h : ED c te n env fun n1 e => ∃ b, hasKey (obD o) e = some b ∧ R n1 (.bl (!b))) : ED c (tDNotIn te (tVar i)) n env R := fun B H σ r Q q => by
  refine h B H σ r _ fun v H1 n1 dk r1 e1 h1 ⟨b, hl, k1⟩ => ?_
  obtain ⟨a, e, hb, he, hk, r'⟩ := r1.freezeO hi
  obtain ⟨v', ev, hd⟩ := r'.fz i (obD o) (by rw [List.getElem?_set_self (List.getElem?_eq_some_iff.mp hi).1])
  rw [e] at ev
  cases ev
  obtain ⟨o2, h3, h4, h5⟩ := hasKey_lk hl
  obtain ⟨a', o', ea, hg, ho⟩ := dhas_of hd (Dt.move (fun _ _ e _ => e) (fun x z => .inl z.1) dk v h1) h3 h5
  cases ea
  refine ⟨_, e, a, o', rfl, hg, ?_⟩
  rw [ho, h4]
  exact q _ H1 n1 _ r1 e1 (.bl (!b)) k1
/-- x = {}, x by tuples -/
theorem sd_newT {i : Nat} (h : N.nx n (env.set i (some (.own (.dct []))))) : SD c (tAsg tDNewT (gName i)) n env N := fun B H σ b r D l p hp =>
  l.nx _ _ _ n _ (step_give hp _) (fun a z => .inl (b a z)) (r.give i hp (.dT []) (.dct []) ⟨[], upd_same, .nil⟩) h
theorem sd_oputT {i : Nat} {es : List (List Key × Dv)} (hi : env[i]? = some (some (.own (.dct es)))) (h : ED c te n env fun n1 d => ED c ti n1 env fun n2 e => ∃ k, keyT e = some k ∧ es.length < sizeLine ∧ N.nx n2 (env.set i (some (.own (.dct (putL es k d)))))) :
    SD c (sDPut (tVar i) ti te) n env N := fun B H σ b r D l => by
  refine h B H σ r _ fun v H1 n1 d r1 e1 h1 k1 => ?_
  obtain ⟨a, e, hb, nk, he, xs, hx, hd⟩ := r1.own i _ hi
  refine ⟨.ref a, e, k1 B H1 σ r1 _ fun u H2 n2 dk r2 e2 h2 ⟨k, ek, sz, k2⟩ => ?_⟩
  obtain ⟨bk, rfl, hbk⟩ := keyT_ref h2 ek
  obtain ⟨a', e', hb', nk', he', xs', hx', hd'⟩ := r2.own i _ hi
  rw [e] at e'
  cases e'
  refine ⟨a, _, rfl, .inr ⟨xs', k, bk, hx', rfl, hbk, by rw [hd'.length]; exact sz, rfl⟩, ?_⟩
  obtain ⟨r3, s3⟩ := r2.turn hi e (.dT (putK xs' k v)) (.dct (putL es k d)) ⟨_, upd_same, DtL.move (keep_turn hb) (fun _ z => .inl z) _ _ (hd'.put k (r1.dt e2 h1))⟩
  exact l.nx B _ σ n2 _ (((Step.ext r e1).trans (Step.ext r1 e2)).trans s3) b r3 k2
end
/-! ### isinstance(x, C), C of the text -/
def bTypes : List String := ["NoneType", "bool", "int", "str", "tuple", "list", "dict"]
structure IsiC (K : PySem.W.Frag) (C : Addr) : Prop where
  me : PySem.W.kitOne K (.ref C) (.ref C) = some true
  no : ∀ T ∈ bTypes, PySem.W.kitOne K (.type T) (.ref C) = some false
  ha : PySem.W.findIn K (.ref C) "__class__" = some (some (.builtin "object.__class__"))
  hn : PySem.W.specialIn K (.builtin "object.__class__") "__get__" = some (some (.builtin "getset_descriptor.__get__"))
  htk : PySem.W.takesIn K (.builtin "object.__class__") = some true
  hm : PySem.W.mroIn K C (.type "object") = some true
/-- isinstance(x, C) -/
def tIsC (K : PySem.W.Frag) (mg : Str → Option Value) (cn : Str) (ta : TE) : TE := fun σ H Q => ∀ C, mg cn = some (.ref C) → IsiC K C → tCB (rIsi K) (tCons ta (tCons (tC (.ref C)) tNil)) σ H Q
def isCF (cn : Str) (d : Dv) : Option Bool := match d with
  | .ins cn' _ => if cn' = cn then some true else none
  | d => if (tyD d).isSome = true then some false else none
section
variable {c : Cn} {n : Nat} {env : DL.Env} {ta : TE} {R : RP}
theorem ed_isC {cn : Str} (h : ED c ta n env fun n1 d => ∃ b, isCF cn d = some b ∧ R n1 (.bl b)) : ED c (tIsC c.K c.wd.cm cn ta) n env R := fun B H σ r Q q C hC hI =>
  h B H σ r _ fun v H1 n1 d r1 e1 h1 ⟨b, hb, k⟩ => by
    have fin := q _ H1 n1 _ r1 e1 (.bl b) k
    have h1' := h1
    cases h1 with
    | @ins cn' a C' dx fs es hc hk nb hx hd =>
      simp only [isCF] at hb
      split at hb
      · rename_i q
        subst q
        cases hb
        rw [hC] at hc
        cases hc
        exact ⟨_, _, .ref C, .ref C, true, rfl, .own C, .base (.ins hx hk.c hI.ha hI.hn hI.htk hI.hm), hI.me, fin⟩
      · cases hb
    | non => cases hb; exact ⟨_, _, _, .ref C, false, rfl, .own C, tyx_of h1' rfl, hI.no _ (by decide), fin⟩
    | bl _ => cases hb; exact ⟨_, _, _, .ref C, false, rfl, .own C, tyx_of h1' rfl, hI.no _ (by decide), fin⟩
    | int _ => cases hb; exact ⟨_, _, _, .ref C, false, rfl, .own C, tyx_of h1' rfl, hI.no _ (by decide), fin⟩
    | str _ => cases hb; exact ⟨_, _, _, .ref C, false, rfl, .own C, tyx_of h1' rfl, hI.no _ (by decide), fin⟩
    | tup _ _ => cases hb; exact ⟨_, _, _, .ref C, false, rfl, .own C, tyx_of h1' rfl, hI.no _ (by decide), fin⟩
    | lst _ _ => cases hb; exact ⟨_, _, _, .ref C, false, rfl, .own C, tyx_of h1' rfl, hI.no _ (by decide), fin⟩
    | dic _ _ _ => cases hb; exact ⟨_, _, _, .ref C, false, rfl, .own C, tyx_of h1' rfl, hI.no _ (by decide), fin⟩
    | dct _ _ _ => cases hb
    | deck _ => cases hb
    | scr _ => cases hb
end
theorem pe_isC {X : Cx} {cn : Str} {e : Expr} {ta : TE} {C : Addr} (hC : X.mg cn = some (.ref C)) (hI : IsiC X.K C) (h : PE X e (tCB (rIsi X.K) (tCons ta (tCons (tC (.ref C)) tNil)))) : PE X e (tIsC X.K X.mg cn ta) := PE.imp h fun σ H Q z => z C hC hI
/-! ### dicts of the top, by texts -/
/-- the entries -/
def TabOk : List (Str × V) → List DictEntry → Prop
  | tab, [] => tab = []
  | tab, e :: es => ∃ x t v r, e.key = .str x t ∧ RelV v e.val ∧ tab = (x, v) :: r ∧ TabOk r es
theorem tab_find : ∀ {es : List DictEntry} {tab : List (Str × V)} (z : Str), TabOk tab es → (∃ v e, tab.lookup z = some v ∧ es.find? (·.key.isStr z) = some e ∧ RelV v e.val) ∨ (tab.lookup z = none ∧ es.find? (·.key.isStr z) = none)
  | [], tab, z, h => by
    cases (show tab = [] from h)
    exact .inr ⟨rfl, rfl⟩
  | e :: es, tab, z, h => by
    obtain ⟨x, t, v, r, hk, hv, rfl, hr⟩ := h
    have hs : e.key.isStr z = (z == x) := by
      rw [hk, PySem.W.isStr_of]
      by_cases q : z = x
      · subst q; simp [Value.isStrOf]
      · rw [beq_eq_false_iff_ne.mpr q]
        simp only [Value.isStrOf]
        exact beq_eq_false_iff_ne.mpr fun w => q (by first | exact w | exact w.symm)
    rw [List.lookup_cons, List.find?_cons, hs]
    cases q : (z == x) with
    | true => exact .inl ⟨v, e, rfl, rfl, hv⟩
    | false => exact tab_find z hr
theorem tab_refs : ∀ {es : List DictEntry} {tab : List (Str × V)}, TabOk tab es → es.any (·.refKey) = false
  | [], _, _ => rfl
  | e :: es, tab, h => by
    obtain ⟨x, t, v, r, hk, hv, rfl, hr⟩ := h
    rw [List.any_cons, tab_refs hr]
    simp [DictEntry.refKey, hk]
/-- d, a dict of the top -/
structure KTab (K : PySem.W.Frag) (w : World) (d : Addr) (tab : List (Str × V)) : Prop where
  ex : ∃ es n, KDict K w d es n ∧ TabOk tab es.toList
theorem KTab.ns {K : PySem.W.Frag} {w : World} {d : Addr} {tab : List (Str × V)} (h : KTab K w d tab) (z : Str) : (∃ v u, tab.lookup z = some v ∧ PySem.W.nsIn K d z = some (some u) ∧ RelV v u) ∨ (tab.lookup z = none ∧ PySem.W.nsIn K d z = some none) := by
  obtain ⟨es, n, D, T⟩ := h.ex
  unfold PySem.W.nsIn
  rw [D.at_]
  rcases tab_find z T with ⟨v, e, h1, h2, h3⟩ | ⟨h1, h2⟩
  · exact .inl ⟨v, e.val, h1, by dsimp only; rw [h2], h3⟩
  · refine .inr ⟨h1, ?_⟩
    dsimp only
    rw [h2]
    dsimp only
    rw [tab_refs T]
    rfl
def flatOf : V → Option Dv
  | .non => some .non
  | .bl b => some (.bl b)
  | .int i => some (.int i)
  | .str x => some (.str x)
  | _ => none
/-- D[e], D a dict of the top; e in D -/
def tKGet (tab : List (Str × V)) (te : TE) : TE := fun σ H Q => te σ H fun y H1 => ∃ z v, y = .str z ∧ tab.lookup z = some v ∧ Q v H1
def tKIn (neg : Bool) (tab : List (Str × V)) (te : TE) : TE := fun σ H Q => te σ H fun y H1 => ∃ z, y = .str z ∧ Q (.bl (if neg then !(tab.lookup z).isSome else (tab.lookup z).isSome)) H1
section
variable {X : Cx} {d : Addr} {tab : List (Str × V)} {x : Str} {e : Expr} {te : TE} {p pos : Pos}
theorem ix_kd (T : KTab X.K X.w d tab) : IxR X (fun x y H Q => ∃ (z : Str) (v : V), x = .ref d ∧ y = .str z ∧ tab.lookup z = some v ∧ Q v H) := by
  intro value slice pins s σ H x y v u Q I rx ry h hs
  obtain ⟨z, w, rfl, rfl, e, q⟩ := h
  cases rx
  obtain ⟨t, rfl⟩ := ry
  rcases T.ns z with ⟨v', u', h1, h2, h3⟩ | ⟨h1, _⟩
  · rw [e] at h1
    cases h1
    obtain ⟨es, n, D, _⟩ := T.ex
    exact tail_any (kd_type D I) slot_dict_getitem.lookup (wpAny_getItem_of (PySem.strKind_is X.prog X.w z t) (PySem.W.mapOf_K (prog := X.prog) I.kIn D.at_ D.lit) (PySem.W.find_K D.at_ h2) ⟨w, H, I.tok _, h3, q⟩) hs
  · rw [e] at h1; cases h1
theorem pe_kget (T : KTab X.K X.w d tab) (hg : Gl X x) (hm : X.mg x = some (.ref d)) (he : PE X e te) (hs : PlainIx e) (hdb : (x == ("__debug__" : Str)) = false := by decide) : PE X (.Subscript (.Name x p) e pos) (tKGet tab te) :=
  PE.imp (pe_ix (ix_kd T) (pe_glob (v := .ref d) hg hm rfl hdb) he hs) fun σ H Q h => by
    refine (show te σ H fun y H1 => ∃ (z : Str) (v : V), V.ref d = .ref d ∧ y = .str z ∧ tab.lookup z = some v ∧ Q v H1 from ?_)
    have e1 : (fun (y : V) (H1 : Hp) => ∃ (z : Str) (v : V), V.ref d = .ref d ∧ y = .str z ∧ tab.lookup z = some v ∧ Q v H1) = (fun (y : V) (H1 : Hp) => ∃ z v, y = .str z ∧ tab.lookup z = some v ∧ Q v H1) := by
      funext y H1
      apply propext
      exact ⟨fun ⟨z, v, _, a, b, c⟩ => ⟨z, v, a, b, c⟩, fun ⟨z, v, a, b, c⟩ => ⟨z, v, rfl, a, b, c⟩⟩
    rw [e1]
    exact h
theorem op_kin (T : KTab X.K X.w d tab) : OpR X (compareOp .In) (fun x y H Q => ∃ z, x = .str z ∧ y = .ref d ∧ Q (.bl (tab.lookup z).isSome) H) := by
  obtain ⟨es, n, D, _⟩ := T.ex
  refine OpR.imp (op_in_kd D) fun x y H Q ⟨z, a, b, q⟩ => ?_
  rcases T.ns z with ⟨v', u', h1, h2, h3⟩ | ⟨h1, h2⟩
  · rw [h1] at q; exact ⟨z, _, a, b, h2, q⟩
  · rw [h1] at q; exact ⟨z, _, a, b, h2, q⟩
theorem op_knin (T : KTab X.K X.w d tab) : OpR X (compareOp .NotIn) (fun x y H Q => ∃ z, x = .str z ∧ y = .ref d ∧ Q (.bl (!(tab.lookup z).isSome)) H) := by
  obtain ⟨es, n, D, _⟩ := T.ex
  refine OpR.imp (op_notIn_kd D) fun x y H Q ⟨z, a, b, q⟩ => ?_
  rcases T.ns z with ⟨v', u', h1, h2, h3⟩ | ⟨h1, h2⟩
  · rw [h1] at q; exact ⟨z, _, a, b, h2, q⟩
  · rw [h1] at q; exact ⟨z, _, a, b, h2, q⟩
end
section
variable {c : Cn} {n : Nat} {env : DL.Env} {te : TE} {R : RP} {tab : List (Str × V)}
theorem flat_dt {v : V} {w : Dv} (h : flatOf v = some w) {wd : Wd} {B : Addr → Prop} {K : PySem.W.Frag} {H : Hp} : Dt wd B K H v w := by
  cases v <;> simp only [flatOf] at h <;> cases h
  · exact .non
  · exact .bl _
  · exact .int _
  · exact .str _
theorem ed_kget (h : ED c te n env fun n1 d => ∃ z v w, d = .str z ∧ tab.lookup z = some v ∧ flatOf v = some w ∧ R n1 w) : ED c (tKGet tab te) n env R := fun B H σ r Q q =>
  h B H σ r _ fun v H1 n1 d r1 e1 h1 ⟨z, u, w, ed, hl, hf, k⟩ => by
    subst ed
    cases h1
    exact ⟨z, u, rfl, hl, q u H1 n1 w r1 e1 (flat_dt hf) k⟩
/-- D in the place of the dict: tOp r te (tC (.ref d)) -/
theorem ed_kin {d : Addr} (h : ED c te n env fun n1 x => ∃ z, x = .str z ∧ R n1 (.bl (tab.lookup z).isSome)) : ED c (tOp (fun x y H Q => ∃ z, x = .str z ∧ y = .ref d ∧ Q (.bl (tab.lookup z).isSome) H) te (tC (.ref d))) n env R := fun B H σ r Q q =>
  h B H σ r _ fun v H1 n1 x r1 e1 h1 ⟨z, ed, k⟩ => by
    subst ed
    cases h1
    exact ⟨z, rfl, rfl, q _ H1 n1 _ r1 e1 (.bl _) k⟩
theorem ed_knin {d : Addr} (h : ED c te n env fun n1 x => ∃ z, x = .str z ∧ R n1 (.bl (!(tab.lookup z).isSome))) : ED c (tOp (fun x y H Q => ∃ z, x = .str z ∧ y = .ref d ∧ Q (.bl (!(tab.lookup z).isSome)) H) te (tC (.ref d))) n env R := fun B H σ r Q q =>
  h B H σ r _ fun v H1 n1 x r1 e1 h1 ⟨z, ed, k⟩ => by
    subst ed
    cases h1
    exact ⟨z, rfl, rfl, q _ H1 n1 _ r1 e1 (.bl _) k⟩
end
end DL

set_option Elab.async false
set_option linter.all false
set_option maxRecDepth 100000
set_option maxHeartbeats 2000000
/-! D26: enumerate of tuples and texts. -/
namespace DL
open PySem PySem.Spec PyProof.Rows L2
set_option maxHeartbeats 1000000 in
theorem meets_enum1 {v : Value} {o : Obj} {H : Heap → Prop} (B : Begins v o H) :
    Meets (Builtin.«enumerate.__new__» ⟨[.type "enumerate", v], []⟩) (fun _ R s => H s.heap ∧
      R (.ok (.ret (.ref (s.heap.push o).objs.size))) { s with heap := (s.heap.push o).push { cls := .type "enumerate", data := .fields #[.none, .bool false, .ref s.heap.objs.size, rawInt 0, .none, .none] } }) :=
  .of_wp fun prog w A R s h => by
    obtain ⟨hp, g, d, tk, os⟩ := s; obtain ⟨h1, h⟩ := h
    have hsub := sub_enumerate
    have q1 : ∀ {A' : Around} {E : Value → Shared → Prop} {Q : Value → Shared → Prop}, Q (.ref hp.objs.size) ⟨hp.push o, g, d, tk, os⟩ → wpAny (model prog w) A' (pyIter v) Q E ⟨hp, g, d, tk, os⟩ :=
      fun q => B.iter prog w _ _ ⟨hp, g, d, tk, os⟩ _ h1 q
    wp_walk using q1
    refine wpAny_stack_any fun st => wpAny_pure ?_
    split
    · rename_i c _ _ _ _ _
      cases (c == Value.type "enumerate")
      · wp_walk using q1
        exact ⟨_, rfl, h⟩
      · wp_walk using q1
        exact ⟨_, rfl, h⟩
    · wp_walk using q1
      exact ⟨_, rfl, h⟩
section
variable {prog : Program} {w : World} {A : Around} {E : Value → Shared → Prop} {s : Shared}
theorem enum_begins1 {v : Value} {o : Obj} {H : Heap → Prop} {Q : Value → Shared → Prop} (B : Begins v o H) (h1 : H s.heap)
    (h : ∀ h', IsEnum h' (s.heap.objs.size + 1) s.heap.objs.size 0 .none → h'.get? s.heap.objs.size = some o → h'.objs.size = s.heap.objs.size + 2 →
      (∀ b o, s.heap.get? b = some o → h'.get? b = some o) → Q (.ref (s.heap.objs.size + 1)) { s with heap := h' }) :
    wpAny (model prog w) A (call (.type "enumerate") [v]) Q E s := by
  refine callType_new F.called_enumerate (by decide) (F.typeCall_enumerate_1 _) (F.newCall_enumerate_1 _) (fun obj => F.args_object_init_2 obj _) F.entry_enumerate_new
    (meets_enum1 B) ⟨h1, ?_⟩
  have hz : (s.heap.push o).objs.size = s.heap.objs.size + 1 := Heap.size_push ..
  show _ ∧ _
  rw [hz]
  have he : IsEnum ((s.heap.push o).push { cls := .type "enumerate", data := .fields #[.none, .bool false, .ref s.heap.objs.size, rawInt 0, .none, .none] }) (s.heap.objs.size + 1) s.heap.objs.size 0 .none := by
    have := Heap.get?_push_size (s.heap.push o) (o := { cls := .type "enumerate", data := .fields #[.none, .bool false, .ref s.heap.objs.size, rawInt 0, .none, .none] }) rfl
    rw [hz] at this; exact this
  refine ⟨⟨_, he, rfl⟩, h _ he (Heap.get?_push_of_some _ (Heap.get?_push_size _ B.free)) (by rw [Heap.size_push, hz]) fun b o x => Heap.get?_push_of_some _ (Heap.get?_push_of_some _ x)⟩
end
/-- a tuple, each item in a new pair -/
def IteT (K : PySem.W.Frag) (a : Addr) : It :=
  ⟨fun i H => ∃ (xs : List V) (x : V), SqT K H a xs ∧ xs[i]? = some x, fun i H v H' => ∃ T x, v = .ref T ∧ H T = none ∧ H' = upd H T (.tup [.int (i : Nat), x]) ∧ ∀ xs, SqT K H a xs → xs[i]? = some x, fun i H => ∃ xs : List V, SqT K H a xs ∧ i = xs.length⟩
/-- a text, each sign in a new pair -/
def IteS (z : Str) : It :=
  ⟨fun i _ => i < z.cps.size, fun i H v H' => ∃ T c, v = .ref T ∧ H T = none ∧ H' = upd H T (.tup [.int (i : Nat), .str ⟨#[c]⟩]) ∧ z.cps[i]? = some c, fun i _ => i = z.cps.size⟩
section
variable {P : Program} {w : World} {K : PySem.W.Frag} {elts : List Expr} {kk : Nat} {tpos : Pos}
theorem turn_enumT (a e it : Addr) : Turn P w K (.Tuple elts kk tpos) (IteT K a) [e, it] e (fun i h => (∃ old, IsEnum h e it ((i : Nat) : Int) old) ∧ h.IsTupleIter it a i ∧ e ≠ it) where
  mem := by simp
  obj := fun i h st b hb => by
    obtain ⟨⟨old, he⟩, ⟨o, ho, hc, hd⟩, _⟩ := st
    have e' : b = e ∨ b = it := by simpa using hb
    rcases e' with z | z
    · rw [z]; exact ⟨_, he, fun v q => nomatch q⟩
    · rw [z]; exact ⟨o, ho, fun v q => by rw [hd] at q; cases q⟩
  keep := fun i h h' st k => let ⟨⟨old, he⟩, hi, hne⟩ := st; ⟨⟨old, k e (by simp) _ he⟩, hi.at fun o q => k it (by simp) o q, hne⟩
  item := by
    intro X hP hw hK hc i pins s σ H E I hf st hg
    subst hP hw hK
    obtain ⟨⟨old, he⟩, hit, hne⟩ := st
    obtain ⟨xs, x, hq, hx⟩ := hg
    obtain ⟨its, rv, p, hz⟩ := I.tuple hq
    obtain ⟨u, hu, ru⟩ := rv.get hx
    have hel : e < s.heap.objs.size := Heap.lt_size he
    have hil : it < s.heap.objs.size := by obtain ⟨_, q, _⟩ := hit; exact Heap.lt_size q
    have hai : a ≠ it := fun z => by
      obtain ⟨o, h1, h2, _⟩ := hit
      obtain ⟨o2, h3, h4, _⟩ := p
      rw [z, h1] at h3
      cases h3
      rw [h2] at h4
      exact absurd h4 (by decide)
    have hae : a ≠ e := fun z => by
      obtain ⟨o2, h3, h4, _⟩ := p
      rw [z, (show s.heap.get? e = some _ from he)] at h3
      cases h3
      exact absurd (show Value.type "enumerate" = Value.type "tuple" from h4) (by decide)
    have hii : i < its.length := (List.getElem?_eq_some_iff.mp hu).1
    refine wpAny_pyNext_enum_itemC (Draws.tuple (A := X.A.in1) (I.ok.hd hc) it a hai its.toArray) he ⟨hit, p⟩ (by simpa using hii) hne (by simp [hne, Ne.symm hae]) fun y h' tk hP ho hs' hT hsz hk => ?_
    have ey : y = u := by
      have := hP
      simp only [List.getElem?_toArray] at this
      rw [hu] at this
      exact (Option.some.inj this).symm
    subst ey
    refine ⟨_, rfl, wpAny_letOwnedTupleGo_enum (s := { s with heap := h', toks := tk + 1 }) ho fun h'' he' sb => ?_⟩
    have hT2 : h''.get? s.heap.objs.size = some { cls := .type "tuple", data := .seq #[.int i tk, y] } := (sb.2 _ (Nat.ne_of_gt hel)).trans hT
    have new : ObjOk X.prog X.w (upd H s.heap.objs.size (.tup [.int (i : Nat), x])) h'' s.heap.objs.size (.tup [.int (i : Nat), x]) :=
      ⟨by show 2 ≤ sizeLine; decide, [.int i tk, y], .cons ⟨_, rfl⟩ (.cons ru .nil), ⟨_, hT2, rfl, _, rfl⟩⟩
    have I1 : Inv X pins σ (upd H s.heap.objs.size (.tup [.int (i : Nat), x])) { s with heap := h'', toks := tk + 1 } :=
      I.turnedNew (ch := [e, it]) (fun b ob hb q => (sb.2 b (fun z => hb (by simp [z]))).trans (hk b ob (fun z => hb (by simp [z])) (fun z => hb (by simp [z])) q)) hf (Nat.le_refl _) new
    refine ⟨.ref s.heap.objs.size, _, I1, rfl, ⟨_, x, rfl, I.hok.fresh (Nat.le_refl _), rfl, fun ys hy => by rw [I.tuple_inj hy hq]; exact hx⟩, ⟨⟨y, ?_⟩, hs'.1.at fun o q => (sb.2 it (Ne.symm hne)).trans q, hne⟩, fun b hb => ?_⟩
    · have e1 : ((i + 1 : Nat) : Int) = (i : Int) + 1 := by omega
      rw [e1]; exact he'
    · have hb' : b < s.heap.objs.size := by
        have e' : b = e ∨ b = it := by simpa using hb
        rcases e' with z | z
        · rw [z]; exact hel
        · rw [z]; exact hil
      rw [upd_ne (Nat.ne_of_lt hb')]
      exact (hf b hb).1
  done := by
    intro X hP hw hK hc i pins s σ H E I hf st hg
    subst hP hw hK
    obtain ⟨⟨old, he⟩, hit, hne⟩ := st
    obtain ⟨xs, hq, hx⟩ := hg
    obtain ⟨its, rv, p, hz⟩ := I.tuple hq
    obtain ⟨f0, f1, f2, f3, f4, f5⟩ := hf it (by simp)
    have hl := rv.length
    have hai : a ≠ it := fun z => by
      obtain ⟨o, h1, h2, _⟩ := hit
      obtain ⟨o2, h3, h4, _⟩ := p
      rw [z, h1] at h3
      cases h3
      rw [h2] at h4
      exact absurd h4 (by decide)
    have hi : i = its.toArray.size := by simp; omega
    subst hi
    exact wpAny_pyNext_enum_endD (Draws.tuple (A := X.A.in1) (I.ok.hd hc) it a hai its.toArray) he ⟨hit, p⟩ fun h' eb => ⟨rfl, I.turned (t' := s.toks) (fun b o hb q => eb b o hb q) f0 f1 f3 f4 f5⟩
  self := fun A i s Q E st h => let ⟨⟨_, he⟩, _⟩ := st; wpAny_pyIter_enum he h
theorem turn_enumS (z : Str) (t : Tok) (e it : Addr) : Turn P w K (.Tuple elts kk tpos) (IteS z) [e, it] e (fun i h => (∃ old, IsEnum h e it ((i : Nat) : Int) old) ∧ h.IsStrIter it (strIterType z) z t i ∧ e ≠ it) where
  mem := by simp
  obj := fun i h st b hb => by
    obtain ⟨⟨old, he⟩, ⟨o, ho, hc, hd⟩, _⟩ := st
    have e' : b = e ∨ b = it := by simpa using hb
    rcases e' with z | z
    · rw [z]; exact ⟨_, he, fun v q => nomatch q⟩
    · rw [z]; exact ⟨o, ho, fun v q => by rw [hd] at q; cases q⟩
  keep := fun i h h' st k => let ⟨⟨old, he⟩, hi, hne⟩ := st; ⟨⟨old, k e (by simp) _ he⟩, (let ⟨o, q1, q2, q3⟩ := hi; ⟨o, k it (by simp) o q1, q2, q3⟩), hne⟩
  item := by
    intro X hP hw hK hc i pins s σ H E I hf st hg
    subst hP hw hK
    obtain ⟨⟨old, he⟩, hit, hne⟩ := st
    have hg : i < z.cps.size := hg
    have hel : e < s.heap.objs.size := Heap.lt_size he
    have hil : it < s.heap.objs.size := by obtain ⟨_, q, _⟩ := hit; exact Heap.lt_size q
    refine wpAny_pyNext_enum_itemC (Draws.text (A := X.A.in1) (I.ok.hd hc) it z t) he hit hg hne (by simp [hne]) fun y h' tk hP ho hs' hT hsz hk => ?_
    obtain ⟨c, ut, hcz, rfl⟩ := hP
    refine ⟨_, rfl, wpAny_letOwnedTupleGo_enum (s := { s with heap := h', toks := tk + 1 }) ho fun h'' he' sb => ?_⟩
    have hT2 : h''.get? s.heap.objs.size = some { cls := .type "tuple", data := .seq #[.int i tk, .str ⟨#[c]⟩ ut] } := (sb.2 _ (Nat.ne_of_gt hel)).trans hT
    have new : ObjOk X.prog X.w (upd H s.heap.objs.size (.tup [.int (i : Nat), .str ⟨#[c]⟩])) h'' s.heap.objs.size (.tup [.int (i : Nat), .str ⟨#[c]⟩]) :=
      ⟨by show 2 ≤ sizeLine; decide, [.int i tk, .str ⟨#[c]⟩ ut], .cons ⟨_, rfl⟩ (.cons ⟨_, rfl⟩ .nil), ⟨_, hT2, rfl, _, rfl⟩⟩
    have I1 : Inv X pins σ (upd H s.heap.objs.size (.tup [.int (i : Nat), .str ⟨#[c]⟩])) { s with heap := h'', toks := tk + 1 } :=
      I.turnedNew (ch := [e, it]) (fun b ob hb q => (sb.2 b (fun z => hb (by simp [z]))).trans (hk b ob (fun z => hb (by simp [z])) (fun z => hb (by simp [z])) q)) hf (Nat.le_refl _) new
    refine ⟨.ref s.heap.objs.size, _, I1, rfl, ⟨_, c, rfl, I.hok.fresh (Nat.le_refl _), rfl, hcz⟩, ⟨⟨.str ⟨#[c]⟩ ut, ?_⟩, (let ⟨o, q1, q2, q3⟩ := hs'; ⟨o, (sb.2 it (Ne.symm hne)).trans q1, q2, q3⟩), hne⟩, fun b hb => ?_⟩
    · have e1 : ((i + 1 : Nat) : Int) = (i : Int) + 1 := by omega
      rw [e1]; exact he'
    · have hb' : b < s.heap.objs.size := by
        have e' : b = e ∨ b = it := by simpa using hb
        rcases e' with z | z
        · rw [z]; exact hel
        · rw [z]; exact hil
      rw [upd_ne (Nat.ne_of_lt hb')]
      exact (hf b hb).1
  done := by
    intro X hP hw hK hc i pins s σ H E I hf st hg
    subst hP hw hK
    obtain ⟨⟨old, he⟩, hit, hne⟩ := st
    obtain ⟨f0, f1, f2, f3, f4, f5⟩ := hf it (by simp)
    have hi : i = z.cps.size := hg
    subst hi
    exact wpAny_pyNext_enum_endD (Draws.text (A := X.A.in1) (I.ok.hd hc) it z t) he hit fun h' eb => ⟨rfl, I.turned (t' := s.toks) (fun b o hb q => eb b o hb q) f0 f1 f3 f4 f5⟩
  self := fun A i s Q E st h => let ⟨⟨_, he⟩, _⟩ := st; wpAny_pyIter_enum he h
end
def iEnumA (K : PySem.W.Frag) (ta : TA) : TI := fun σ H R => ta σ H fun vs H1 => (∃ a xs, vs = [.ref a] ∧ SqL K H1 a xs ∧ R (Ite K a) H1) ∨ (∃ a xs, vs = [.ref a] ∧ SqT K H1 a xs ∧ R (IteT K a) H1) ∨ ∃ z, vs = [.str z] ∧ R (IteS z) H1
theorem pi_enumA {X : Cx} {e : Expr} {ta : TA} {p pos tpos : Pos} {elts : List Expr} {kk : Nat} (hg : Gl X "enumerate") (hm : X.mg "enumerate" = none) (ha : PA X [e] ta) (hs : starEach [e] X.env = [(false, eval e X.env)] := by rfl) :
    PI X (.Tuple elts kk tpos) (.Call (.Name "enumerate" p) [e] [] pos) (iEnumA X.K ta) := by
  refine ⟨fun pins s σ H R I h => ?_⟩
  refine Call_ (ld_blt I hg hm boot_enumerate (PyProof.Rows.callWith_type1 (thn (ha.run pos pins s σ H _ I h) fun us s1 ⟨vs, H1, I1, r1, q1⟩ => ?_) hs rfl))
  have fp : ∀ b, b ∈ [s1.heap.objs.size + 1, s1.heap.objs.size] → FpOk X pins H1 b := fun b hb => by
    have e' : b = s1.heap.objs.size + 1 ∨ b = s1.heap.objs.size := by simpa using hb
    have hle : s1.heap.objs.size ≤ b := by
      rcases e' with z | z
      · rw [z]; exact Nat.le_add_right _ _
      · rw [z]; exact Nat.le_refl _
    exact I1.fpOk hle (I1.hok.fresh hle)
  rcases q1 with ⟨a, xs, ex, hq, q⟩ | ⟨a, xs, ex, hq, q⟩ | ⟨z, ex, q⟩ <;> subst ex <;> cases r1 with
  | cons r rr =>
    cases rr
    first
    | cases r
      obtain ⟨its, rv, p', hz⟩ := I1.list hq
      refine call_enumerate_list p'.isList fun h' he hit hsz hk => wpAny_pyIter_enum he ?_
      have I2 : Inv X pins σ H1 { s1 with heap := h' } := I1.kept (t' := s1.toks) hk
      exact ⟨s1.heap.objs.size + 1, [s1.heap.objs.size + 1, s1.heap.objs.size], _, _, H1, rfl, I2, turn_enum a (s1.heap.objs.size + 1) s1.heap.objs.size, ⟨⟨.none, he⟩, hit, Nat.succ_ne_self _⟩, fp, q⟩
    | cases r
      obtain ⟨its, rv, p', hz⟩ := I1.tuple hq
      refine enum_begins1 (begins_tuple a its.toArray) p' fun h' he hit hsz hk => wpAny_pyIter_enum he ?_
      have I2 : Inv X pins σ H1 { s1 with heap := h' } := I1.kept (t' := s1.toks) hk
      exact ⟨s1.heap.objs.size + 1, [s1.heap.objs.size + 1, s1.heap.objs.size], _, _, H1, rfl, I2, turn_enumT a (s1.heap.objs.size + 1) s1.heap.objs.size, ⟨⟨.none, he⟩, ⟨_, hit, rfl, rfl⟩, Nat.succ_ne_self _⟩, fp, q⟩
    | obtain ⟨t, rfl⟩ := r
      refine enum_begins1 (begins_text z t) trivial fun h' he hit hsz hk => wpAny_pyIter_enum he ?_
      have I2 : Inv X pins σ H1 { s1 with heap := h' } := I1.kept (t' := s1.toks) hk
      exact ⟨s1.heap.objs.size + 1, [s1.heap.objs.size + 1, s1.heap.objs.size], _, _, H1, rfl, I2, turn_enumS z t (s1.heap.objs.size + 1) s1.heap.objs.size, ⟨⟨.none, he⟩, ⟨_, hit, rfl, rfl⟩, Nat.succ_ne_self _⟩, fp, q⟩
/-- over trees -/
def enumD : List Dv → Option (List Dv)
  | [.lst ds] => some (nums ds)
  | [.tup ds] => some (nums ds)
  | [.str z] => some (nums (signs z))
  | _ => none
theorem nums_get {ds : List Dv} {i : Nat} {d : Dv} (hi : (nums ds)[i]? = some d) : ∃ e, ds[i]? = some e ∧ d = .tup [.int (i : Nat), e] := by
  unfold nums at hi
  rw [List.getElem?_map, List.getElem?_zipIdx] at hi
  cases q : ds[i]? with
  | none => rw [q] at hi; cases hi
  | some e =>
    rw [q] at hi
    exact ⟨e, rfl, by simpa using hi.symm⟩
theorem nums_len (ds : List Dv) : (nums ds).length = ds.length := by unfold nums; rw [List.length_map, List.length_zipIdx]
theorem wd_enumA {c : Cn} {n : Nat} {env : DL.Env} {ta : TA} {R : Nat → List Dv → Prop} (h : AD c ta n env fun n1 es => ∃ items, enumD es = some items ∧ R n1 items) : WD c (iEnumA c.K ta) n env R := fun B H σ r k q =>
  h B H σ r _ fun v H1 n1 d r1 e1 h1 ⟨items, e, k1⟩ => by
    unfold enumD at e
    split at e
    · cases e
      cases h1 with
      | cons a b =>
        cases b
        cases a with
        | @lst a xs ds hq hd =>
          refine .inl ⟨a, xs, rfl, hq.sq, q _ H1 n1 _ r1 e1 (fun B2 H2 s lv => ⟨fun i d hi => ?_, fun i hi => ?_⟩) k1⟩
          · obtain ⟨e, q, rfl⟩ := nums_get hi
            obtain ⟨x, hx, hxd⟩ := hd.get q
            have hs : SqL c.K H2 a xs := (ql_step s hq).sq
            refine ⟨⟨xs, x, hs, hx⟩, fun y H' hy => ?_⟩
            obtain ⟨T, z, e1, e2, e3, e4⟩ := hy
            have := e4 xs hs
            rw [hx] at this
            cases this
            subst e1 e3
            have sm := same_new e2 (.tup [.int (i : Nat), x])
            exact ⟨sm, .tup (qt_new lv e2) (.cons (.int _) (.cons (dt_same sm (Dt.move s.keep s.ban e x hxd)) .nil))⟩
          · exact ⟨xs, (ql_step s hq).sq, by rw [hi, nums_len, hd.length]; exact Nat.le_refl _⟩
    · cases e
      cases h1 with
      | cons a b =>
        cases b
        cases a with
        | @tup a xs ds hq hd =>
          refine .inr (.inl ⟨a, xs, rfl, hq.sq, q _ H1 n1 _ r1 e1 (fun B2 H2 s lv => ⟨fun i d hi => ?_, fun i hi => ?_⟩) k1⟩)
          · obtain ⟨e, q, rfl⟩ := nums_get hi
            obtain ⟨x, hx, hxd⟩ := hd.get q
            have hs : SqT c.K H2 a xs := (qt_step s hq).sq
            refine ⟨⟨xs, x, hs, hx⟩, fun y H' hy => ?_⟩
            obtain ⟨T, z, e1, e2, e3, e4⟩ := hy
            have := e4 xs hs
            rw [hx] at this
            cases this
            subst e1 e3
            have sm := same_new e2 (.tup [.int (i : Nat), x])
            exact ⟨sm, .tup (qt_new lv e2) (.cons (.int _) (.cons (dt_same sm (Dt.move s.keep s.ban e x hxd)) .nil))⟩
          · exact ⟨xs, (qt_step s hq).sq, by rw [hi, nums_len, hd.length]⟩
    · rename_i z hh
      cases e
      cases h1 with
      | cons a b =>
        cases b
        cases a with
        | str =>
          refine .inr (.inr ⟨z, rfl, q _ H1 n1 _ r1 e1 (fun B2 H2 s lv => ⟨fun i d hi => ?_, fun i hi => ?_⟩) k1⟩)
          · obtain ⟨e, q, rfl⟩ := nums_get hi
            unfold signs at q
            rw [List.getElem?_map] at q
            cases qq : z.cps.toList[i]? with
            | none => rw [qq] at q; cases q
            | some c0 =>
              rw [qq] at q
              cases q
              have qa : z.cps[i]? = some c0 := by simpa using qq
              refine ⟨(Array.getElem?_eq_some_iff.mp qa).1, fun y H' hy => ?_⟩
              obtain ⟨T, c1, e1, e2, e3, e4⟩ := hy
              rw [qa] at e4
              cases e4
              subst e1 e3
              have sm := same_new e2 (.tup [.int (i : Nat), .str ⟨#[c0]⟩])
              exact ⟨sm, .tup (qt_new lv e2) (.cons (.int _) (.cons (.str _) .nil))⟩
          · show i = z.cps.size
            rw [hi, nums_len]
            simp [signs]
    · cases e
/-! ### what is walked: a list, a tuple, a text -/
def iAny (K : PySem.W.Frag) (te : TE) : TI := fun σ H R => te σ H fun x H1 => (∃ a, x = .ref a ∧ (∃ xs, SqL K H1 a xs) ∧ R (Itl K a) H1) ∨ (∃ a, x = .ref a ∧ (∃ xs, SqT K H1 a xs) ∧ R (Itt K a) H1) ∨ ∃ z, x = .str z ∧ R (Its z) H1
theorem pi_any {X : Cx} {tg e : Expr} {te : TE} (he : PE X e te) : PI X tg e (iAny X.K te) := by
  refine ⟨fun pins s σ H R I h => ?_⟩
  refine thn (he.run pins s σ H _ I h) fun v s1 ⟨x, H1, I1, r1, q1⟩ => ?_
  have fp : ∀ b, b ∈ [s1.heap.objs.size] → FpOk X pins H1 b := fun b hb => by
    have e : b = s1.heap.objs.size := by simpa using hb
    subst e
    exact I1.fpOk (Nat.le_refl _) (I1.hok.fresh (Nat.le_refl _))
  rcases q1 with ⟨a, e, ⟨xs, hq⟩, q⟩ | ⟨a, e, ⟨xs, hq⟩, q⟩ | ⟨z, e, q⟩
  · subst e
    cases r1
    obtain ⟨its, rv, p, hz⟩ := I1.list hq
    refine wpAny_pyIter_list p.isList ?_
    exact ⟨s1.heap.objs.size, [s1.heap.objs.size], _, _, H1, rfl, I1.kept (t' := s1.toks) fun b o e => Heap.get?_push_of_some _ e, turn_list a _, ⟨_, Heap.get?_push_size _ rfl, rfl, rfl⟩, fp, q⟩
  · subst e
    cases r1
    obtain ⟨its, rv, p, hz⟩ := I1.tuple hq
    refine wpAny_pyIter_tuple (show s1.heap.IsTuple a its.toArray from p) ?_
    exact ⟨s1.heap.objs.size, [s1.heap.objs.size], _, _, H1, rfl, I1.kept (t' := s1.toks) fun b o e => Heap.get?_push_of_some _ e, turn_tuple a _, ⟨_, Heap.get?_push_size _ rfl, rfl, rfl⟩, fp, q⟩
  · subst e
    obtain ⟨t, rfl⟩ := r1
    cases ha : z.cps.all (· < 128)
    · exact wpAny_pyIter_wide ha (pi_one (tk := s1.toks) I1 _ (turn_str _ z t "str_iterator" (.inr rfl)) ⟨_, Heap.get?_push_size _ rfl, rfl, rfl⟩ q)
    · exact wpAny_pyIter_ascii ha (pi_one (tk := s1.toks) I1 _ (turn_str _ z t "str_ascii_iterator" (.inl rfl)) ⟨_, Heap.get?_push_size _ rfl, rfl, rfl⟩ q)
def itemsD : Dv → Option (List Dv)
  | .lst ds => some ds
  | .tup ds => some ds
  | .str z => some (signs z)
  | _ => none
theorem wd_any {c : Cn} {n : Nat} {env : DL.Env} {te : TE} {R : Nat → List Dv → Prop} (h : ED c te n env fun n1 d => ∃ items, itemsD d = some items ∧ R n1 items) : WD c (iAny c.K te) n env R := fun B H σ r k q =>
  h B H σ r _ fun v H1 n1 d r1 e1 h1 ⟨items, e, k1⟩ => by
    cases h1 with
    | @lst a xs ds hq hd =>
      cases e
      refine .inl ⟨a, rfl, ⟨xs, hq.sq⟩, q _ H1 n1 _ r1 e1 (fun B2 H2 s lv => ⟨fun i d hi => ?_, fun i hi => ?_⟩) k1⟩
      · obtain ⟨x, hx, hxd⟩ := hd.get hi
        have hs : SqL c.K H2 a xs := (ql_step s hq).sq
        refine ⟨⟨xs, x, hs, hx⟩, fun y H' hy => ?_⟩
        obtain ⟨e, hy⟩ := hy
        subst e
        have := hy xs hs
        rw [hx] at this
        cases this
        exact ⟨Same.refl _, Dt.move s.keep s.ban d x hxd⟩
      · exact ⟨xs, (ql_step s hq).sq, by rw [hd.length]; exact Nat.le_of_eq hi.symm⟩
    | @tup a xs ds hq hd =>
      cases e
      refine .inr (.inl ⟨a, rfl, ⟨xs, hq.sq⟩, q _ H1 n1 _ r1 e1 (fun B2 H2 s lv => ⟨fun i d hi => ?_, fun i hi => ?_⟩) k1⟩)
      · obtain ⟨x, hx, hxd⟩ := hd.get hi
        have hs : SqT c.K H2 a xs := (qt_step s hq).sq
        refine ⟨⟨xs, x, hs, hx⟩, fun y H' hy => ?_⟩
        obtain ⟨e, hy⟩ := hy
        subst e
        have := hy xs hs
        rw [hx] at this
        cases this
        exact ⟨Same.refl _, Dt.move s.keep s.ban d x hxd⟩
      · exact ⟨xs, (qt_step s hq).sq, by rw [hd.length]; exact Nat.le_of_eq hi.symm⟩
    | str z =>
      have z0 := wd_str (c := c) (n := n1) (env := env) (te := fun σ H Q => Q (.str z) H) (R := fun n' l => n' = n1 ∧ l = signs z) (fun B H σ r Q q => q _ H n1 (.str z) r (Ext0.refl _ _) (.str z) ⟨z, rfl, rfl, rfl⟩) B H1 σ r1 (fun J H' => ∃ H2 : Hp, H' = H2 ∧ k J H') fun J H2 n2 l r2 e2 w2 ⟨en, el⟩ => by
        subst en el
        cases e
        exact ⟨H2, rfl, q J H2 n2 _ r2 (e1.trans e2) w2 k1⟩
      obtain ⟨x, ex, H2, eh, hk⟩ := z0
      cases ex
      exact .inr (.inr ⟨z, rfl, hk⟩)
    | _ => cases e
end DL

set_option Elab.async false
set_option linter.all false
set_option maxRecDepth 100000
set_option maxHeartbeats 2000000
/-! D27: a, b = .., [] : own objects made in a parallel store. -/
namespace DL
open PySem PySem.Spec PyProof.Rows L2
section
variable {c : Cn} {n : Nat} {env : DL.Env} {N : DN}
/-- an own object that no local holds yet -/
theorem Rel.adopt {B : Addr → Prop} {H : Hp} {σ : L2.St} (R : Rel c B n H σ env) (i : Nat) {a : Addr} {o : Ob} (hb : B a) (nk : ¬ Dk c.wd a) (he : c.He a = none) (ho : Own c.wd B c.K H a o) (hni : ∀ cn es, o ≠ .ins cn es)
    (hf : ∀ (j : Nat) (u : Ob), env[j]? = some (some (.own u)) → σ[j]? ≠ some (some (.ref a))) : Rel c B n H (σ.set i (some (.ref a))) (env.set i (some (.own o))) := by
  have at_i : ∀ {x : Option Dx} {y : Dx}, (env.set i x)[i]? = some (some y) → i < env.length ∧ x = some y := fun {x y} h => by
    have l : i < env.length := by
      have := (List.getElem?_eq_some_iff.mp h).1
      rwa [List.length_set] at this
    rw [List.getElem?_set_self l] at h
    exact ⟨l, Option.some.inj h⟩
  refine ⟨R.sub, R.stp, by rw [List.length_set, List.length_set, R.len], R.wok, R.dk, R.live, R.ent, fun j d h => ?_, fun j v h => ?_, fun j k v w b hj hk sj sk => ?_, fun j cn es hj => ?_⟩
  · by_cases q : i = j
    · subst q
      cases (at_i h).2
    · rw [List.getElem?_set_ne q] at h ⊢
      exact R.fz j d h
  · by_cases q : i = j
    · subst q
      obtain ⟨l, e⟩ := at_i h
      cases e
      exact ⟨a, List.getElem?_set_self (by rw [R.len]; exact l), hb, nk, he, ho⟩
    · rw [List.getElem?_set_ne q] at h ⊢
      exact R.own j v h
  · by_cases q : i = j
    · subst q
      by_cases q' : i = k
      · exact q'
      · rw [List.getElem?_set_ne q'] at hk sk
        obtain ⟨l, _⟩ := at_i hj
        rw [List.getElem?_set_self (by rw [R.len]; exact l)] at sj
        cases sj
        exact absurd sk (hf k w hk)
    · by_cases q' : i = k
      · subst q'
        rw [List.getElem?_set_ne q] at hj sj
        obtain ⟨l, _⟩ := at_i hk
        rw [List.getElem?_set_self (by rw [R.len]; exact l)] at sk
        cases sk
        exact absurd sj (hf j v hj)
      · rw [List.getElem?_set_ne q] at hj sj
        rw [List.getElem?_set_ne q'] at hk sk
        exact R.inj j k v w b hj hk sj sk
  · by_cases q : i = j
    · subst q
      exact absurd (Dx.own.inj (Option.some.inj (by rw [(at_i hj).2]))) (hni cn es)
    · rw [List.getElem?_set_ne q] at hj ⊢
      exact R.slf j cn es hj
/-- values of a parallel store: trees, and new own objects -/
inductive PV (c : Cn) (B : Addr → Prop) (H Hs : Hp) : List V → List Dx → Prop
  | nil : PV c B H Hs [] []
  | fz {v : V} {d : Dv} {vs : List V} {xs : List Dx} : Dt c.wd B c.K H v d → PV c B H Hs vs xs → PV c B H Hs (v :: vs) (.fz d :: xs)
  | own {a : Addr} {o : Ob} {vs : List V} {xs : List Dx} : B a → ¬ Dk c.wd a → c.He a = none → Own c.wd B c.K H a o → (∀ cn es, o ≠ .ins cn es) → Hs a = none → (∀ (i : Nat) (u : Ob), xs[i]? = some (.own u) → vs[i]? ≠ some (.ref a)) → PV c B H Hs vs xs → PV c B H Hs (.ref a :: vs) (.own o :: xs)
theorem PV.fresh {B : Addr → Prop} {H Hs : Hp} : ∀ {vs : List V} {xs : List Dx}, PV c B H Hs vs xs → ∀ (i : Nat) (u : Ob) (a : Addr), xs[i]? = some (.own u) → vs[i]? = some (.ref a) → Hs a = none
  | _, _, .nil, i, u, a, h, _ => by simp at h
  | _, _, .fz _ r, 0, u, a, h, _ => by cases h
  | _, _, .fz _ r, i + 1, u, a, h, k => r.fresh i u a (by simpa using h) (by simpa using k)
  | _, _, .own _ _ _ _ _ hs _ r, 0, u, a, h, k => by cases k; exact hs
  | _, _, .own _ _ _ _ _ _ _ r, i + 1, u, a, h, k => r.fresh i u a (by simpa using h) (by simpa using k)
theorem PV.low {B : Addr → Prop} {H Hs Hs' : Hp} (h : ∀ a, Hs a = none → Hs' a = none) : ∀ {vs : List V} {xs : List Dx}, PV c B H Hs vs xs → PV c B H Hs' vs xs
  | _, _, .nil => .nil
  | _, _, .fz d r => .fz d (r.low h)
  | _, _, .own a b e f g i j r => .own a b e f g (h _ i) j (r.low h)
/-- what a parallel store's right side comes to -/
def PX (c : Cn) (t : TA) (n : Nat) (env : DL.Env) (R : Nat → List Dx → Prop) : Prop := ∀ B H σ, Rel c B n H σ env → ∀ Q : List V → Hp → Prop,
  (∀ vs H' n' xs B', Rel c B' n' H' σ env → (∀ a, B a → B' a) → (∀ a, B' a → B a ∨ H a = none) → Ext0 c.wd H H' → PV c B' H' H vs xs → R n' xs → Q vs H') → t σ H Q
theorem px_nil {R : Nat → List Dx → Prop} (k : R n []) : PX c tNil n env R := fun B H σ r Q q => q [] H n [] B r (fun _ z => z) (fun _ z => .inl z) (Ext0.refl _ _) .nil k
theorem ext_none {B : Addr → Prop} {H H' : Hp} {σ : L2.St} (r : Rel c B n H σ env) (e : Ext0 c.wd H H') {m : Nat} (w : WOk c.wd m H') {a : Addr} (h : H' a = none) : H a = none := by
  match q : H a with
  | none => rfl
  | some o =>
    by_cases z : Dk c.wd a
    · exact absurd h (w.live z)
    · rw [e a o q z] at h; cases h
theorem px_cons {ta : TE} {tr : TA} {R : Nat → List Dx → Prop} (h : ED c ta n env fun n1 d => PX c tr n1 env fun n2 xs => R n2 (.fz d :: xs)) : PX c (tCons ta tr) n env R := fun B H σ r Q q =>
  h B H σ r _ fun v H1 n1 d r1 e1 h1 k1 => k1 B H1 σ r1 _ fun us H2 n2 xs B2 r2 sb bn e2 p2 k2 =>
    q (v :: us) H2 n2 (.fz d :: xs) B2 r2 sb (fun a z => (bn a z).imp id fun y => ext_none r e1 r1.wok y) (e1.trans e2)
      (.fz (Dt.move (fun a o g z => e2 a o g fun y => z (r1.dk a y)) (fun a z => bn a z) d v h1) (p2.low fun a y => ext_none r e1 r1.wok y)) k2
/-- a new object, the def's own -/
theorem px_new {t0 : TE} {tr : TA} {R : Nat → List Dx → Prop} (u : HO) (o : Ob) (h0 : ∀ σ H Q, t0 σ H Q ↔ ∀ p, H p = none → Q (.ref p) (upd H p u)) (ho : ∀ (B : Addr → Prop) (H : Hp) (p : Addr), H p = some u → Own c.wd B c.K H p o) (hni : ∀ cn es, o ≠ .ins cn es)
    (h : PX c tr n env fun n2 xs => R n2 (.own o :: xs)) : PX c (tCons t0 tr) n env R := fun B H σ r Q q => (h0 _ _ _).mpr fun p hp => by
  have sm := same_new hp u
  refine h (fun a => B a ∨ a = p) (upd H p u) σ (r.more hp u) _ fun us H2 n2 xs B2 r2 sb bn e2 p2 k2 => ?_
  have nk : ¬ Dk c.wd p := fun z => r.new hp (r.dk p z)
  have hp2 : H2 p = some u := e2 p u upd_same nk
  refine q (.ref p :: us) H2 n2 (.own o :: xs) B2 r2 (fun a z => sb a (.inl z)) (fun a z => ?_) ((Ext0.same sm).trans e2) (.own (sb p (.inr rfl)) nk (r.newHe hp) (ho B2 H2 p hp2) hni hp (fun i v hv hs => ?_) (p2.low fun a y => ?_)) k2
  · rcases bn a z with (y | y) | y
    · exact .inl y
    · exact .inr (by rw [y]; exact hp)
    · refine .inr ?_
      match w : H a with
      | none => rfl
      | some x => rw [sm a x w] at y; cases y
  · have := p2.fresh i v p hv hs
    rw [upd_same] at this
    cases this
  · match w : H a with
    | none => rfl
    | some x => rw [sm a x w] at y; cases y
theorem own_nil {c : Cn} (B : Addr → Prop) (H : Hp) (p : Addr) (h : H p = some (.lst [])) : Own c.wd B c.K H p (.lst []) := ⟨[], h, .nil⟩
theorem px_newL {tr : TA} {R : Nat → List Dx → Prop} (h : PX c tr n env fun n2 xs => R n2 (.own (.lst []) :: xs)) : PX c (tCons (tLst tNil) tr) n env R :=
  px_new (.lst []) (.lst []) (fun σ H Q => ⟨fun z => z.2, fun z => ⟨Nat.zero_le _, z⟩⟩) (fun B H p h => ⟨[], h, .nil⟩) nofun h
theorem px_newD {tr : TA} {R : Nat → List Dx → Prop} (h : PX c tr n env fun n2 xs => R n2 (.own (.dic []) :: xs)) : PX c (tCons tDNewK tr) n env R :=
  px_new (.dK []) (.dic []) (fun σ H Q => Iff.rfl) (fun B H p h => ⟨[], h, .nil⟩) nofun h
theorem px_newT {tr : TA} {R : Nat → List Dx → Prop} (h : PX c tr n env fun n2 xs => R n2 (.own (.dct []) :: xs)) : PX c (tCons tDNewT tr) n env R :=
  px_new (.dT []) (.dct []) (fun σ H Q => Iff.rfl) (fun B H p h => ⟨[], h, .nil⟩) nofun h
/-- the stores -/
theorem Rel.put1 {B : Addr → Prop} {H Hs : Hp} {σ : L2.St} {v : V} {x : Dx} {vs : List V} {xs : List Dx} (R : Rel c B n H σ env) (i : Nat) (p : PV c B H Hs (v :: vs) (x :: xs))
    (hf : ∀ (k : Nat) (u : Ob) (a : Addr), (x :: xs)[k]? = some (.own u) → (v :: vs)[k]? = some (.ref a) → ∀ (j : Nat) (w : Ob), env[j]? = some (some (.own w)) → σ[j]? ≠ some (some (.ref a))) :
    Rel c B n H (σ.set i (some v)) (env.set i (some x)) ∧ PV c B H Hs vs xs ∧
      ∀ (k : Nat) (u : Ob) (a : Addr), xs[k]? = some (.own u) → vs[k]? = some (.ref a) → ∀ (j : Nat) (w : Ob), (env.set i (some x))[j]? = some (some (.own w)) → (σ.set i (some v))[j]? ≠ some (some (.ref a)) := by
  have rest : ∀ (k : Nat) (u : Ob) (a : Addr), xs[k]? = some (.own u) → vs[k]? = some (.ref a) → (∀ w, x = .own w → v ≠ .ref a) → ∀ (j : Nat) (w : Ob), (env.set i (some x))[j]? = some (some (.own w)) → (σ.set i (some v))[j]? ≠ some (some (.ref a)) := fun k u a h1 h2 ne j w h3 h4 => by
    by_cases q : i = j
    · subst q
      have l : i < env.length := by
        have := (List.getElem?_eq_some_iff.mp h3).1
        rwa [List.length_set] at this
      rw [List.getElem?_set_self l] at h3
      rw [List.getElem?_set_self (by rw [R.len]; exact l)] at h4
      exact ne w (Option.some.inj (Option.some.inj h3)) (Option.some.inj (Option.some.inj h4))
    · rw [List.getElem?_set_ne q] at h3 h4
      exact hf (k + 1) u a (by simpa using h1) (by simpa using h2) j w h3 h4
  cases p with
  | fz hd r => exact ⟨R.set i hd, r, fun k u a h1 h2 => rest k u a h1 h2 fun w z => nomatch z⟩
  | own h1 h2 h3 h4 h5 h6 h7 r =>
    exact ⟨R.adopt i h1 h2 h3 h4 h5 fun j w => hf 0 _ _ rfl rfl j w, r, fun k u a g1 g2 => rest k u a g1 g2 fun w _ z => h7 k u g1 (by rw [g2, z])⟩
theorem PV.start {B : Addr → Prop} {H Hs : Hp} {Bs : Addr → Prop} {σ : L2.St} {vs : List V} {xs : List Dx} {m : Nat} (R : Rel c Bs m Hs σ env) (p : PV c B H Hs vs xs) (k : Nat) (u : Ob) (a : Addr) (h1 : xs[k]? = some (.own u)) (h2 : vs[k]? = some (.ref a)) (j : Nat) (w : Ob) (h3 : env[j]? = some (some (.own w))) : σ[j]? ≠ some (some (.ref a)) := fun h4 => by
  obtain ⟨b, e, hb, _⟩ := R.own j w h3
  rw [e] at h4
  cases h4
  exact R.live _ hb (p.fresh k u _ h1 h2)
theorem step_of {B B' : Addr → Prop} {H H' : Hp} {σ : L2.St} (r : Rel c B n H σ env) (bn : ∀ a, B' a → B a ∨ H a = none) (e : Ext0 c.wd H H') : Step B H B' H' := ⟨fun a o h z => e a o h fun y => z (r.dk a y), bn⟩
theorem sd_parX {i j : Nat} {t : TA} (h : PX c t n env fun n1 xs => ∃ x y, xs = [x, y] ∧ N.nx n1 ((env.set i (some x)).set j (some y))) : SD c (tPar i j t) n env N := fun B H σ b r D l =>
  h B H σ r _ fun vs H1 n1 xs B1 r1 sb bn e1 p1 ⟨x, y, ex, k⟩ => by
    subst ex
    have f0 := fun k u a h1 h2 j w h3 => PV.start r p1 k u a h1 h2 j w h3
    match vs, p1 with
    | [v, w], p1 =>
      obtain ⟨r2, p2, f2⟩ := r1.put1 i p1 f0
      obtain ⟨r3, _, _⟩ := r2.put1 j p2 f2
      exact ⟨v, w, rfl, l.nx B1 H1 _ n1 _ (step_of r bn e1) (fun a z => sb a (b a z)) r3 k⟩
    | [], p1 => nomatch p1
    | [v], p1 => cases p1 with
      | fz _ q => nomatch q
      | own _ _ _ _ _ _ _ q => nomatch q
    | v :: w :: z :: vs, p1 => cases p1 with
      | fz _ q => cases q with
        | fz _ q => nomatch q
        | own _ _ _ _ _ _ _ q => nomatch q
      | own _ _ _ _ _ _ _ q => cases q with
        | fz _ q => nomatch q
        | own _ _ _ _ _ _ _ q => nomatch q
theorem sd_par3X {i j m : Nat} {t : TA} (h : PX c t n env fun n1 xs => ∃ x y z, xs = [x, y, z] ∧ N.nx n1 (((env.set i (some x)).set j (some y)).set m (some z))) : SD c (tPar3 i j m t) n env N := fun B H σ b r D l =>
  h B H σ r _ fun vs H1 n1 xs B1 r1 sb bn e1 p1 ⟨x, y, z, ex, k⟩ => by
    subst ex
    have f0 := fun k u a h1 h2 j w h3 => PV.start r p1 k u a h1 h2 j w h3
    have len : ∀ {vs : List V} {xs : List Dx}, PV c B1 H1 H vs xs → vs.length = xs.length := by
      intro vs xs p
      induction p with
      | nil => rfl
      | fz _ _ ih => simp [ih]
      | own _ _ _ _ _ _ _ _ ih => simp [ih]
    match vs, p1, len p1 with
    | [v, w, u], p1, _ =>
      obtain ⟨r2, p2, f2⟩ := r1.put1 i p1 f0
      obtain ⟨r3, p3, f3⟩ := r2.put1 j p2 f2
      obtain ⟨r4, _, _⟩ := r3.put1 m p3 f3
      exact ⟨v, w, u, rfl, l.nx B1 H1 _ n1 _ (step_of r bn e1) (fun a z => sb a (b a z)) r4 k⟩
    | [], _, h => nomatch h
    | [_], _, h => nomatch h
    | [_, _], _, h => nomatch h
    | _ :: _ :: _ :: _ :: _, _, h => nomatch h
end
end DL

set_option Elab.async false
set_option linter.all false
set_option maxRecDepth 100000
set_option maxHeartbeats 2000000
/-! F1: expressions of a def as data; what they come to is a function. -/
namespace DL
open PySem PySem.Spec L2

/-! ### an answer, a failure, an error, a draw -/
inductive T (α : Type) where
  | ret (a : α) | fail | exc (x : Dv) | draw (b : Int) (k : Int → T α)
namespace T
def bind {α β : Type} : T α → (α → T β) → T β
  | .ret a, f => f a
  | .fail, _ => .fail
  | .exc x, _ => .exc x
  | .draw b k, f => .draw b fun i => (k i).bind f
/-- n: the draws that are free -/
def wp {α : Type} : T α → Nat → (Nat → α → Prop) → (Nat → Dv → Prop) → Prop
  | .ret a, n, R, _ => R n a
  | .fail, _, _, _ => False
  | .exc x, n, _, E => E n x
  | .draw b k, n, R, E => 0 < b ∧ b < 1073741824 ∧ 2 ≤ n ∧ ∀ i : Int, 0 ≤ i → i < b → (k i).wp (n - 2) R E
def ofO {α : Type} : Option α → T α
  | some a => .ret a
  | none => .fail
def grd {α : Type} (b : Bool) (m : T α) : T α := match b with
  | true => m
  | false => .fail
def ite {α : Type} (b : Bool) (m k : T α) : T α := match b with
  | true => m
  | false => k
@[simp] theorem ret_bind {α β : Type} (a : α) (f : α → T β) : (T.ret a).bind f = f a := rfl
@[simp] theorem fail_bind {α β : Type} (f : α → T β) : (T.fail).bind f = .fail := rfl
@[simp] theorem exc_bind {α β : Type} (x : Dv) (f : α → T β) : (T.exc x).bind f = .exc x := rfl
@[simp] theorem draw_bind {α β : Type} (b : Int) (k : Int → T α) (f : α → T β) : (T.draw b k).bind f = .draw b fun i => (k i).bind f := rfl
@[simp] theorem ofO_some {α : Type} (a : α) : ofO (some a) = .ret a := rfl
@[simp] theorem ofO_none {α : Type} : ofO (none : Option α) = .fail := rfl
@[simp] theorem grd_true {α : Type} (m : T α) : grd true m = m := rfl
@[simp] theorem grd_false {α : Type} (m : T α) : grd false m = .fail := rfl
@[simp] theorem ite_true {α : Type} (m k : T α) : ite true m k = m := rfl
@[simp] theorem ite_false {α : Type} (m k : T α) : ite false m k = k := rfl
theorem bind_assoc {α β γ : Type} (m : T α) (f : α → T β) (g : β → T γ) : (m.bind f).bind g = m.bind fun a => (f a).bind g := by
  induction m with
  | ret a => rfl
  | fail => rfl
  | exc x => rfl
  | draw b k ih => simp only [draw_bind]; congr 1; funext i; exact ih i
theorem bind_ret {α : Type} (m : T α) : m.bind .ret = m := by
  induction m with
  | ret a => rfl
  | fail => rfl
  | exc x => rfl
  | draw b k ih => simp only [draw_bind]; congr 1; funext i; exact ih i
theorem wp_mono {α : Type} {R R' : Nat → α → Prop} {E E' : Nat → Dv → Prop} (h : ∀ n a, R n a → R' n a) (he : ∀ n x, E n x → E' n x) (m : T α) : ∀ n, m.wp n R E → m.wp n R' E' := by
  induction m with
  | ret a => exact fun n z => h n a z
  | fail => exact fun n z => z
  | exc x => exact fun n z => he n x z
  | draw b k ih => exact fun n ⟨h1, h2, h3, h4⟩ => ⟨h1, h2, h3, fun i a b => ih i _ (h4 i a b)⟩
theorem wp_bind {α β : Type} {R : Nat → β → Prop} {E : Nat → Dv → Prop} (f : α → T β) (m : T α) : ∀ n, (m.bind f).wp n R E ↔ m.wp n (fun n a => (f a).wp n R E) E := by
  induction m with
  | ret a => exact fun n => Iff.rfl
  | fail => exact fun n => Iff.rfl
  | exc x => exact fun n => Iff.rfl
  | draw b k ih => exact fun n => ⟨fun ⟨h1, h2, h3, h4⟩ => ⟨h1, h2, h3, fun i a b => (ih i _).mp (h4 i a b)⟩, fun ⟨h1, h2, h3, h4⟩ => ⟨h1, h2, h3, fun i a b => (ih i _).mpr (h4 i a b)⟩⟩
theorem wp_ofO {α : Type} {R : Nat → α → Prop} {E : Nat → Dv → Prop} {o : Option α} {n : Nat} : (ofO o).wp n R E ↔ ∃ a, o = some a ∧ R n a := by
  cases o with
  | none => exact ⟨fun z => z.elim, fun ⟨_, z, _⟩ => nomatch z⟩
  | some a => exact ⟨fun z => ⟨a, rfl, z⟩, fun ⟨_, z, h⟩ => by cases z; exact h⟩
theorem wp_grd {α : Type} {R : Nat → α → Prop} {E : Nat → Dv → Prop} {b : Bool} {m : T α} {n : Nat} : (grd b m).wp n R E ↔ b = true ∧ m.wp n R E := by
  cases b with
  | true => exact ⟨fun z => ⟨rfl, z⟩, fun z => z.2⟩
  | false => exact ⟨fun z => z.elim, fun z => nomatch z.1⟩
theorem wp_ite {α : Type} {R : Nat → α → Prop} {E : Nat → Dv → Prop} {b : Bool} {m k : T α} {n : Nat} : (ite b m k).wp n R E ↔ if b = true then m.wp n R E else k.wp n R E := by
  cases b with
  | true => exact Iff.rfl
  | false => exact ⟨fun z => z, fun z => z⟩
end T
def noX : Nat → Dv → Prop := fun _ _ => False

/-! ### locals -/
def getE : DL.Env → Nat → Option Dx
  | [], _ => none
  | x :: _, 0 => x
  | _ :: l, i + 1 => getE l i
def setE : DL.Env → Nat → Option Dx → DL.Env
  | [], _, _ => []
  | _ :: l, 0, y => y :: l
  | x :: l, i + 1, y => x :: setE l i y
theorem getE_at : ∀ {env : DL.Env} {i : Nat} {x : Dx}, getE env i = some x → env[i]? = some (some x)
  | y :: l, 0, x, h => by rw [show y = some x from h]; rfl
  | y :: l, i + 1, x, h => by rw [List.getElem?_cons_succ]; exact getE_at (env := l) h
theorem setE_eq : ∀ (env : DL.Env) (i : Nat) (x : Option Dx), setE env i x = env.set i x
  | [], _, _ => by simp [setE]
  | _ :: l, 0, _ => rfl
  | y :: l, i + 1, x => by rw [List.set_cons_succ, ← setE_eq l i x]; rfl
def forE (env : DL.Env) : List Nat → DL.Env
  | [] => env
  | i :: is => forE (setE env i none) is
theorem forE_rel {c : Cn} {B : Addr → Prop} {n : Nat} {H : Hp} {σ : L2.St} : ∀ (is : List Nat) {env : DL.Env}, Rel c B n H σ env → Rel c B n H σ (forE env is)
  | [], _, r => r
  | i :: is, env, r => forE_rel is (by rw [setE_eq]; exact r.drop i)
def wipE (env : DL.Env) : List Nat → DL.Env
  | [] => env
  | v :: vs => setE (wipE env vs) v none
theorem wipE_eq (env : DL.Env) : ∀ vs : List Nat, wipE env vs = wipeD env vs
  | [] => rfl
  | v :: vs => by show setE (wipE env vs) v none = (wipeD env vs).set v none; rw [setE_eq, wipE_eq env vs]

/-! ### the text around a def -/
structure Gx where
  K : PySem.W.Frag
  mg : Str → Option Value
structure GOk (c : Cn) (g : Gx) : Prop where
  k : g.K = c.K
  m : g.mg = c.wd.cm
theorem GOk.eq {c : Cn} {g : Gx} (h : GOk c g) : g = ⟨c.K, c.wd.cm⟩ := by
  obtain ⟨a, b⟩ := h
  cases g
  cases a
  cases b
  rfl

/-! ### operations -/
structure O1 where
  t : Gx → TE → TE
  f : Dv → Option Dv
  ok : ∀ {c : Cn} {g : Gx}, GOk c g → ∀ {te : TE} {n : Nat} {env : DL.Env} {R : RP}, ED c te n env (fun n1 d => ∃ z, f d = some z ∧ R n1 z) → ED c (t g te) n env R
structure O2 where
  t : Gx → TE → TE → TE
  f : Dv → Dv → Option Dv
  ok : ∀ {c : Cn} {g : Gx}, GOk c g → ∀ {ta tb : TE} {n : Nat} {env : DL.Env} {R : RP}, ED c ta n env (fun n1 d => ED c tb n1 env fun n2 e => ∃ z, f d e = some z ∧ R n2 z) → ED c (t g ta tb) n env R
/-- a method of one argument; its object is looked at ahead of the argument -/
structure M2 where
  t : Gx → TE → TE → TE
  pre : Dv → Bool
  f : Dv → Dv → Option Dv
  ok : ∀ {c : Cn} {g : Gx}, GOk c g → ∀ {ta tb : TE} {n : Nat} {env : DL.Env} {R : RP}, ED c ta n env (fun n1 d => pre d = true ∧ ED c tb n1 env fun n2 e => ∃ z, f d e = some z ∧ R n2 z) → ED c (t g ta tb) n env R
structure ON where
  t : Gx → TA → TE
  f : List Dv → Option Dv
  ok : ∀ {c : Cn} {g : Gx}, GOk c g → ∀ {ta : TA} {n : Nat} {env : DL.Env} {R : RP}, AD c ta n env (fun n1 ds => ∃ z, f ds = some z ∧ R n1 z) → ED c (t g ta) n env R
/-- a call: what it does may draw -/
structure OT where
  t : Gx → TA → TE
  f : List Dv → T Dv
  ok : ∀ {c : Cn} {g : Gx}, GOk c g → ∀ {ta : TA} {n : Nat} {env : DL.Env} {R : RP}, AD c ta n env (fun n1 ds => (f ds).wp n1 R noX) → ED c (t g ta) n env R
structure OK2 where
  t : Gx → TA → TA → TE
  f : List Dv → List Dv → T Dv
  ok : ∀ {c : Cn} {g : Gx}, GOk c g → ∀ {ta tb : TA} {n : Nat} {env : DL.Env} {R : RP}, AD c ta n env (fun n1 ds => AD c tb n1 env fun n2 es => (f ds es).wp n2 R noX) → ED c (t g ta tb) n env R
structure W1 where
  t : Gx → TE → TI
  f : Dv → Option (List Dv)
  ok : ∀ {c : Cn} {g : Gx}, GOk c g → ∀ {te : TE} {n : Nat} {env : DL.Env} {R : Nat → List Dv → Prop}, ED c te n env (fun n1 d => ∃ z, f d = some z ∧ R n1 z) → WD c (t g te) n env R
structure WN where
  t : Gx → TA → TI
  f : List Dv → Option (List Dv)
  ok : ∀ {c : Cn} {g : Gx}, GOk c g → ∀ {ta : TA} {n : Nat} {env : DL.Env} {R : Nat → List Dv → Prop}, AD c ta n env (fun n1 ds => ∃ z, f ds = some z ∧ R n1 z) → WD c (t g ta) n env R
/-- comparisons -/
structure C2 where
  r : Gx → R2
  f : Dv → Dv → Option Bool
  ok : ∀ {c : Cn} {g : Gx}, GOk c g → ∀ {d e : Dv} {b : Bool} {R : Dv → Prop}, f d e = some b → R (.bl b) → OD c (r g) d e R
def blO (o : Option Bool) : Option Dv := match o with
  | some b => some (.bl b)
  | none => none
@[simp] theorem blO_some (b : Bool) : blO (some b) = some (.bl b) := rfl
theorem blO_eq {o : Option Bool} {z : Dv} (h : blO o = some z) : ∃ b, o = some b ∧ z = .bl b := by
  cases o with
  | none => cases h
  | some b => cases h; exact ⟨b, rfl, rfl⟩
def C2.o2 (o : C2) : O2 := ⟨fun g => tOp (o.r g), fun d e => blO (o.f d e), @fun c g hg _ _ _ _ _ h => ed_op (ed_mono h fun n1 d h1 => ed_mono h1 fun n2 e ⟨z, h2, h3⟩ => by
  obtain ⟨b, h4, rfl⟩ := blO_eq h2
  exact o.ok hg h4 h3)⟩
structure R2O where
  r : Gx → R2
  f : Dv → Dv → Option Dv
  ok : ∀ {c : Cn} {g : Gx}, GOk c g → ∀ {d e z : Dv} {R : Dv → Prop}, f d e = some z → R z → OD c (r g) d e R
def R2O.o2 (o : R2O) : O2 := ⟨fun g => tOp (o.r g), o.f, @fun c g hg _ _ _ _ _ h => ed_op (ed_mono h fun n1 d h1 => ed_mono h1 fun n2 e ⟨z, h2, h3⟩ => o.ok hg h2 h3)⟩

/-! ### targets -/
mutual
inductive Tg
  | nm (i : Nat) | tup (k : Nat) (gs : Tgs) | unl (k : Nat) (gs : Tgs)
inductive Tgs
  | nil | cons (g : Tg) (gs : Tgs)
end
mutual
def rdG (K : PySem.W.Frag) : Tg → TG
  | .nm i => gName i
  | .tup k gs => gTup K k (rdGs K gs)
  | .unl k gs => gUnl K k (rdGs K gs)
def rdGs (K : PySem.W.Frag) : Tgs → TGs
  | .nil => gNil
  | .cons g gs => gCons (rdG K g) (rdGs K gs)
end
mutual
def evG : Tg → Dv → DL.Env → Option DL.Env
  | .nm i, d, env => some (setE env i (some (.fz d)))
  | .tup k gs, d, env => match d with
    | .tup ds => match ds.length == k with
      | true => evGs gs ds env
      | false => none
    | _ => none
  | .unl k gs, d, env => match d with
    | .lst ds => match ds.length == k with
      | true => evGs gs ds env
      | false => none
    | _ => none
def evGs : Tgs → List Dv → DL.Env → Option DL.Env
  | .nil, ds, env => match ds with | [] => some env | _ :: _ => none
  | .cons g gs, ds, env => match ds with
    | [] => none
    | d :: ds => match evG g d env with
      | some e => evGs gs ds e
      | none => none
end
mutual
def subG (vs : List Nat) : Tg → Bool
  | .nm i => decide (i ∈ vs)
  | .tup _ gs => subGs vs gs
  | .unl _ gs => subGs vs gs
def subGs (vs : List Nat) : Tgs → Bool
  | .nil => true
  | .cons g gs => subG vs g && subGs vs gs
end
mutual
/-- the slots of a target -/
def slotsG : Tg → List Nat
  | .nm i => [i]
  | .tup _ gs => slotsGs gs
  | .unl _ gs => slotsGs gs
def slotsGs : Tgs → List Nat
  | .nil => []
  | .cons g gs => slotsG g ++ slotsGs gs
end
mutual
theorem subG_mem {vs : List Nat} : ∀ g : Tg, (∀ i ∈ slotsG g, i ∈ vs) → subG vs g = true
  | .nm i, h => by simp only [subG, decide_eq_true_eq]; exact h i (by simp [slotsG])
  | .tup _ gs, h => by simp only [subG]; exact subGs_mem gs (by simpa [slotsG] using h)
  | .unl _ gs, h => by simp only [subG]; exact subGs_mem gs (by simpa [slotsG] using h)
theorem subGs_mem {vs : List Nat} : ∀ g : Tgs, (∀ i ∈ slotsGs g, i ∈ vs) → subGs vs g = true
  | .nil, _ => rfl
  | .cons g gs, h => by
    simp only [subGs, Bool.and_eq_true]
    simp only [slotsGs, List.mem_append] at h
    exact ⟨subG_mem g fun i hi => h i (.inl hi), subGs_mem gs fun i hi => h i (.inr hi)⟩
end
theorem subG_slots (g : Tg) : subG (slotsG g) g = true := subG_mem g fun _ h => h
mutual
theorem okTg (c : Cn) (vs : List Nat) : ∀ (g : Tg) (d : Dv) (env e : DL.Env) (R : DL.Env → Prop), subG vs g = true → evG g d env = some e → R e → GD c (rdG c.K g) vs d env R
  | .nm i, d, env, e, R, hs, h, k => by
    simp only [evG] at h
    cases h
    exact gd_name (by simpa [subG] using hs) (by rw [← setE_eq]; exact k)
  | .tup k gs, d, env, e, R, hs, h, q => by
    simp only [evG] at h
    cases d <;> try cases h
    rename_i ds
    cases w : (ds.length == k) with
    | false => simp only [w] at h; cases h
    | true =>
      simp only [w] at h
      exact gd_tup (by simpa using w) (okTgs c vs gs _ _ _ _ (by simpa [subG] using hs) h q)
  | .unl k gs, d, env, e, R, hs, h, q => by
    simp only [evG] at h
    cases d <;> try cases h
    rename_i ds
    cases w : (ds.length == k) with
    | false => simp only [w] at h; cases h
    | true =>
      simp only [w] at h
      exact gd_unlU (by simpa using w) (okTgs c vs gs _ _ _ _ (by simpa [subG] using hs) h q)
theorem okTgs (c : Cn) (vs : List Nat) : ∀ (g : Tgs) (d : List Dv) (env e : DL.Env) (R : DL.Env → Prop), subGs vs g = true → evGs g d env = some e → R e → GDs c (rdGs c.K g) vs d env R
  | .nil, d, env, e, R, hs, h, k => by
    simp only [evGs] at h
    cases d with
    | nil => cases h; exact gds_nil k
    | cons _ _ => cases h
  | .cons g gs, d, env, e, R, hs, h, k => by
    simp only [evGs] at h
    simp only [subGs, Bool.and_eq_true] at hs
    cases d with
    | nil => cases h
    | cons d ds =>
      cases w : evG g d env with
      | none => simp only [w] at h; cases h
      | some e1 =>
        simp only [w] at h
        exact gds_cons (okTg c vs g d env e1 _ hs.1 w (okTgs c vs gs ds e1 e R hs.2 h k))
end

/-! ### expressions -/
mutual
inductive Ex
  | con (v : V) (d : Dv) (h : ∀ wd B K H, Dt wd B K H v d)
  | var (i : Nat)
  | p0 (t : Gx → TE) (f : DL.Env → T Dv) (ok : ∀ {c : Cn} {g : Gx}, GOk c g → ∀ (n : Nat) (env : DL.Env) (R : RP), (f env).wp n R noX → ED c (t g) n env R)
  | o1 (o : O1) (a : Ex)
  | o2 (o : O2) (a b : Ex)
  | m2 (o : M2) (a b : Ex)
  | on (o : ON) (as : Ar)
  | ot (o : OT) (as : Ar)
  | ok (o : OK2) (as bs : Ar)
  | and (a b : Ex)
  | or (a b : Ex)
  | ifx (t : Te) (a b : Ex)
  | chain (o o' : C2) (a b e : Ex)
  | sl (a : Ex) (lo hi : Po)
  | lc (wi : Wk) (g : Tg) (tt : Te) (e : Ex)
  | disp (ps : Pr)
  | bor (i : Nat) (a : Ex)
  | oix (i : Nat) (a : Ex)
  | oget (i : Nat) (a : Ex)
inductive Ar
  | nil | cons (a : Ex) (as : Ar)
inductive Te
  | tst (a : Ex) | tb (a : Ex) | tru (a : Ex) | not (t : Te) | and (t u : Te) | or (t u : Te) | yes | bor (i : Nat) (t : Te)
inductive Po
  | non | som (a : Ex)
inductive Wk
  | w1 (o : W1) (a : Ex) | wn (o : WN) (as : Ar)
inductive Pr
  | nil | cons (a b : Ex) (ps : Pr)
end
mutual
def rdE (g : Gx) : Ex → TE
  | .con v _ _ => tC v
  | .var i => tVar i
  | .p0 t _ _ => t g
  | .o1 o a => o.t g (rdE g a)
  | .o2 o a b => o.t g (rdE g a) (rdE g b)
  | .m2 o a b => o.t g (rdE g a) (rdE g b)
  | .on o as => o.t g (rdA g as)
  | .ot o as => o.t g (rdA g as)
  | .ok o as bs => o.t g (rdA g as) (rdA g bs)
  | .and a b => tAndV (rdE g a) (rdE g b)
  | .or a b => tOrV (rdE g a) (rdE g b)
  | .ifx t a b => tIf (rdT g t) (rdE g a) (rdE g b)
  | .chain o o' a b e => tChain (o.r g) (o'.r g) (rdE g a) (rdE g b) (rdE g e)
  | .sl a lo hi => tSl (rSlU g.K) (rdE g a) (rdO g lo) (rdO g hi)
  | .lc wi w tt e => tLc (rdW g wi) (rdG g.K w) (rdT g tt) (rdE g e) (slotsG w)
  | .disp ps => tDisp (rdP g ps)
  | .bor _ a => rdE g a
  | .oix i a => tOp (rIx g.K) (tVar i) (rdE g a)
  | .oget i a => tDGet (tVar i) (rdE g a)
def rdA (g : Gx) : Ar → TA
  | .nil => tNil
  | .cons a as => tCons (rdE g a) (rdA g as)
def rdT (g : Gx) : Te → TT
  | .tst a => tTest (rdE g a)
  | .tb a => tB (rdE g a)
  | .tru a => fun σ H Q => rdE g a σ H fun x H' => ∃ k, TruV g.K x H' k ∧ Q k H'
  | .not t => tNot (rdT g t)
  | .and t u => tAnd (rdT g t) (rdT g u)
  | .or t u => tOr (rdT g t) (rdT g u)
  | .yes => tYes
  | .bor _ t => rdT g t
def rdO (g : Gx) : Po → TO
  | .non => tNoPart
  | .som a => tPart (rdE g a)
def rdW (g : Gx) : Wk → TI
  | .w1 o a => o.t g (rdE g a)
  | .wn o as => o.t g (rdA g as)
def rdP (g : Gx) : Pr → List (TE × TE)
  | .nil => []
  | .cons a b ps => (rdE g a, rdE g b) :: rdP g ps
end

/-! ### what they come to -/
/-- a comprehension, item by item -/
def lcT {α β : Type} (st : α → T (Option β)) : List α → T (List β)
  | [] => .ret []
  | d :: ds => (st d).bind fun o => (lcT st ds).bind fun l => .ret (match o with
    | some y => y :: l
    | none => l)
def ixF (d e : Dv) : Option Dv := match d, e with
  | .lst ds, .int j => L2.atI ds j
  | .tup ds, .int j => L2.atI ds j
  | .str z, .int j => match decide (z.length ≤ sizeLine) with
    | true => match L2.atI z.cps.toList j with
      | some a => some (.str ⟨#[a]⟩)
      | none => none
    | false => none
  | _, _ => none
theorem ix_ok {c : Cn} {d e z : Dv} {R : Dv → Prop} (h : ixF d e = some z) (k : R z) : OD c (rIx c.K) d e R := by
  unfold ixF at h
  split at h
  · exact od_ixl h k
  · exact od_ixt h k
  · split at h
    · rename_i hl
      split at h
      · rename_i q
        cases h
        exact od_ixs (of_decide_eq_true hl) q k
      · cases h
    · cases h
  · cases h
def dgetF (d e : Dv) : Option Dv := match d with
  | .dic es => match keyD e with
    | some k => lkD es k
    | none => none
  | _ => none
theorem dget_ok {d e z : Dv} (h : dgetF d e = some z) : ∃ es k, d = .dic es ∧ keyD e = some k ∧ lkD es k = some z := by
  unfold dgetF at h
  split at h
  · split at h
    · exact ⟨_, _, rfl, ‹_›, h⟩
    · cases h
  · cases h
def slF (d : Dv) (lo hi : Option Int) : Option Dv := match d with
  | .lst ds => some (.lst (cutD ds lo hi))
  | .tup ds => some (.tup (cutD ds lo hi))
  | .str z => match decide (z.length ≤ sizeLine) with
    | true => some (.str (cutS z lo hi))
    | false => none
  | .scr ns => some (.lst ((ns.drop (HT.sIx ns.length 0 lo)).take (HT.sIx ns.length ns.length hi - HT.sIx ns.length 0 lo) |>.map Dv.int))
  | _ => none
theorem sl_ok {d z : Dv} {lo hi : Option Int} {R : Dv → Prop} (h : slF d lo hi = some z) (k : R z) : SlD d lo hi R := by
  cases d <;> simp only [slF] at h <;> try cases h
  · split at h
    · rename_i hl
      cases h
      exact ⟨of_decide_eq_true hl, k⟩
    · cases h
  · exact k
  · exact k
  · exact k
def isB : Dv → Option Bool
  | .bl b => some b
  | _ => none
theorem isB_eq {d : Dv} {b : Bool} (h : isB d = some b) : d = .bl b := by cases d <;> cases h; rfl
def isI : Dv → Option Int
  | .int i => some i
  | _ => none
theorem isI_eq {d : Dv} {b : Int} (h : isI d = some b) : d = .int b := by cases d <;> cases h; rfl
@[simp] theorem isB_bl (b : Bool) : isB (.bl b) = some b := rfl
@[simp] theorem isI_int (i : Int) : isI (.int i) = some i := rfl
mutual
def evE : Ex → DL.Env → T Dv
  | .con _ d _, _ => .ret d
  | .var i, env => match getE env i with
    | some (.fz d) => .ret d
    | _ => .fail
  | .p0 _ f _, env => f env
  | .o1 o a, env => (evE a env).bind fun d => T.ofO (o.f d)
  | .o2 o a b, env => (evE a env).bind fun d => (evE b env).bind fun e => T.ofO (o.f d e)
  | .m2 o a b, env => (evE a env).bind fun d => T.grd (o.pre d) ((evE b env).bind fun e => T.ofO (o.f d e))
  | .on o as, env => (evA as env).bind fun ds => T.ofO (o.f ds)
  | .ot o as, env => (evA as env).bind fun ds => o.f ds
  | .ok o as bs, env => (evA as env).bind fun ds => (evA bs env).bind fun es => o.f ds es
  | .and a b, env => (evE a env).bind fun d => (T.ofO (isB d)).bind fun x => T.ite x (evE b env) (.ret (.bl false))
  | .or a b, env => (evE a env).bind fun d => (T.ofO (isB d)).bind fun x => T.ite x (.ret (.bl true)) (evE b env)
  | .ifx t a b, env => (evT t env).bind fun x => T.ite x (evE a env) (evE b env)
  | .chain o o' a b e, env => (evE a env).bind fun d => (evE b env).bind fun f => (T.ofO (o.f d f)).bind fun x => T.ite x ((evE e env).bind fun g => (T.ofO (o'.f f g)).bind fun y => .ret (.bl y)) (.ret (.bl false))
  | .sl a lo hi, env => (evE a env).bind fun d => (evO lo env).bind fun l => (evO hi env).bind fun h => T.ofO (slF d l h)
  | .lc wi g tt e, env => (evW wi env).bind fun items => T.grd (decide (items.length ≤ sizeLine)) ((lcT (fun d => (T.ofO (evG g d (wipE env (slotsG g)))).bind fun env => (evT tt env).bind fun b => T.ite b ((evE e env).bind fun y => .ret (some y)) (.ret none)) items).bind fun ds => .ret (.lst ds))
  | .disp ps, env => (evP ps env).bind fun es => T.grd (decide (es.length ≤ 15)) (.ret (.dic (mergeD [] es)))
  | .bor i a, env => match getE env i with
    | some (.own o) => (evE a (setE env i (some (.fz (obD o))))).bind fun d => T.grd (noL d) (.ret d)
    | _ => evE a env
  | .oix i a, env => match getE env i with
    | some (.own (.lst ds)) => (evE a env).bind fun x => (T.ofO (isI x)).bind fun j => T.ofO (L2.atI ds j)
    | some (.fz d) => (evE a env).bind fun x => T.ofO (ixF d x)
    | _ => .fail
  | .oget i a, env => match getE env i with
    | some (.own (.dic es)) => (evE a env).bind fun x => T.ofO (dgetF (.dic es) x)
    | some (.fz d) => (evE a env).bind fun x => T.ofO (dgetF d x)
    | _ => .fail
def evA : Ar → DL.Env → T (List Dv)
  | .nil, _ => .ret []
  | .cons a as, env => (evE a env).bind fun d => (evA as env).bind fun ds => .ret (d :: ds)
def evT : Te → DL.Env → T Bool
  | .tst a, env => (evE a env).bind fun d => T.ofO (isB d)
  | .tb a, env => (evE a env).bind fun d => T.ofO (isB d)
  | .tru a, env => (evE a env).bind fun d => T.ofO (tru d)
  | .not t, env => (evT t env).bind fun b => .ret (!b)
  | .and t u, env => (evT t env).bind fun b => T.ite b (evT u env) (.ret false)
  | .or t u, env => (evT t env).bind fun b => T.ite b (.ret true) (evT u env)
  | .yes, _ => .ret true
  | .bor i t, env => match getE env i with
    | some (.own o) => evT t (setE env i (some (.fz (obD o))))
    | _ => evT t env
def evO : Po → DL.Env → T (Option Int)
  | .non, _ => .ret none
  | .som a, env => (evE a env).bind fun d => (T.ofO (isI d)).bind fun i => .ret (some i)
def evW : Wk → DL.Env → T (List Dv)
  | .w1 o a, env => (evE a env).bind fun d => T.ofO (o.f d)
  | .wn o as, env => (evA as env).bind fun ds => T.ofO (o.f ds)
def evP : Pr → DL.Env → T (List (Key × Dv))
  | .nil, _ => .ret []
  | .cons a b ps, env => (evE a env).bind fun d => (T.ofO (keyD d)).bind fun k => (evE b env).bind fun e => (evP ps env).bind fun es => .ret ((k, e) :: es)
end

/-! ### and that is so -/
theorem ad_mono {c : Cn} {t : TA} {n : Nat} {env : DL.Env} {R R' : Nat → List Dv → Prop} (h : AD c t n env R) (k : ∀ n b, R n b → R' n b) : AD c t n env R' := fun B H σ r Q q => h B H σ r Q fun vs H' n' ds x y z w => q vs H' n' ds x y z (k _ _ w)
theorem pd_mono {c : Cn} {t : TO} {n : Nat} {env : DL.Env} {R R' : Nat → Option Int → Prop} (h : PD c t n env R) (k : ∀ n b, R n b → R' n b) : PD c t n env R' := fun B H σ r Q q => h B H σ r Q fun o H' n' x y w => q o H' n' x y (k _ _ w)
theorem wd_mono {c : Cn} {t : TI} {n : Nat} {env : DL.Env} {R R' : Nat → List Dv → Prop} (h : WD c t n env R) (k : ∀ n b, R n b → R' n b) : WD c t n env R' := fun B H σ r Q q => h B H σ r Q fun J H' n' ds x y z w => q J H' n' ds x y z (k _ _ w)
theorem ppd_mono {c : Cn} {t : List (TE × TE)} {n : Nat} {env : DL.Env} {R R' : Nat → List (Key × Dv) → Prop} (h : PPD c t n env R) (k : ∀ n b, R n b → R' n b) : PPD c t n env R' := fun B H σ r Q q => h B H σ r Q fun vs H' n' ds x y z w => q vs H' n' ds x y z (k _ _ w)
section
variable {c : Cn} {g : Gx}
theorem lcT_W {w : TG} {vs : List Nat} {tt : TT} {te : TE} {env : DL.Env} {st : Dv → T (Option Dv)}
    (hs : ∀ d n k, (st d).wp n k noX → GD c w vs d env fun env2 => TD c tt n env2 fun n2 b => if b = true then ED c te n2 env2 fun n3 y => k n3 (some y) else k n2 none) : ∀ (l : List Dv) (n : Nat) (k : Nat → List Dv → Prop), (lcT st l).wp n k noX → LcW c w vs tt te env l n k
  | [], n, k, h => lcW_nil h
  | d :: l, n, k, h => by
    have h' := (T.wp_bind _ _ _).mp h
    refine lcW_cons (gd_mono (hs d n _ h') fun env2 h2 => td_mono h2 fun n2 b h3 => ?_)
    cases b with
    | true => exact iteT (ed_mono (show ED c te n2 env2 _ from h3) fun n3 y h4 => lcT_W hs l n3 _ ((T.wp_bind _ _ _).mp h4))
    | false => exact iteF (lcT_W hs l n2 _ ((T.wp_bind _ _ _).mp h3))
mutual
theorem soE (hg : GOk c g) : ∀ (e : Ex) (n : Nat) (env : DL.Env) (R : RP), (evE e env).wp n R noX → ED c (rdE g e) n env R
  | .con v d hd, n, env, R, h => fun B H σ r Q q => q v H n d r (Ext0.refl _ _) (hd _ _ _ _) h
  | .var i, n, env, R, h => by
    simp only [evE] at h
    split at h
    · rename_i d hd
      exact ed_var (getE_at hd) h
    · exact h.elim
  | .p0 t f ok, n, env, R, h => ok hg n env R h
  | .o1 o a, n, env, R, h => o.ok hg (ed_mono (soE hg a n env _ ((T.wp_bind _ _ _).mp h)) fun n1 d h1 => T.wp_ofO.mp h1)
  | .o2 o a b, n, env, R, h => o.ok hg (ed_mono (soE hg a n env _ ((T.wp_bind _ _ _).mp h)) fun n1 d h1 => ed_mono (soE hg b n1 env _ ((T.wp_bind _ _ _).mp h1)) fun n2 e h2 => T.wp_ofO.mp h2)
  | .m2 o a b, n, env, R, h => o.ok hg (ed_mono (soE hg a n env _ ((T.wp_bind _ _ _).mp h)) fun n1 d h1 => ⟨(T.wp_grd.mp h1).1, ed_mono (soE hg b n1 env _ ((T.wp_bind _ _ _).mp (T.wp_grd.mp h1).2)) fun n2 e h2 => T.wp_ofO.mp h2⟩)
  | .on o as, n, env, R, h => o.ok hg (ad_mono (soA hg as n env _ ((T.wp_bind _ _ _).mp h)) fun n1 ds h1 => T.wp_ofO.mp h1)
  | .ot o as, n, env, R, h => o.ok hg (soA hg as n env _ ((T.wp_bind _ _ _).mp h))
  | .ok o as bs, n, env, R, h => o.ok hg (ad_mono (soA hg as n env _ ((T.wp_bind _ _ _).mp h)) fun n1 d h1 => soA hg bs n1 env _ ((T.wp_bind _ _ _).mp h1))
  | .and a b, n, env, R, h => ed_and (ed_mono (soE hg a n env _ ((T.wp_bind _ _ _).mp h)) fun n1 d h1 => by
      obtain ⟨x, hx, h2⟩ := T.wp_ofO.mp ((T.wp_bind _ _ _).mp h1)
      cases isB_eq hx
      cases x with
      | true => exact (show if true = true then ED c (rdE g b) n1 env R else R n1 (.bl false) from iteT (soE hg b n1 env R h2))
      | false => exact (show if false = true then ED c (rdE g b) n1 env R else R n1 (.bl false) from iteF h2))
  | .or a b, n, env, R, h => ed_or (ed_mono (soE hg a n env _ ((T.wp_bind _ _ _).mp h)) fun n1 d h1 => by
      obtain ⟨x, hx, h2⟩ := T.wp_ofO.mp ((T.wp_bind _ _ _).mp h1)
      cases isB_eq hx
      cases x with
      | false => exact (show if false = true then R n1 (.bl true) else ED c (rdE g b) n1 env R from iteF (soE hg b n1 env R h2))
      | true => exact (show if true = true then R n1 (.bl true) else ED c (rdE g b) n1 env R from iteT h2))
  | .ifx t a b, n, env, R, h => ed_if (td_mono (soT hg t n env _ ((T.wp_bind _ _ _).mp h)) fun n1 x h1 => by
      cases x with
      | true => exact iteT (soE hg a n1 env R h1)
      | false => exact iteF (soE hg b n1 env R h1))
  | .chain o o' a b e, n, env, R, h => ed_chain (ed_mono (soE hg a n env _ ((T.wp_bind _ _ _).mp h)) fun n1 d1 h1 => ed_mono (soE hg b n1 env _ ((T.wp_bind _ _ _).mp h1)) fun n2 d2 h2 => by
      obtain ⟨x, hx, h3⟩ := T.wp_ofO.mp ((T.wp_bind _ _ _).mp h2)
      refine o.ok hg hx ?_
      cases x with
      | true => exact (show if true = true then ED c (rdE g e) n2 env (fun n3 d3 => OD c (o'.r g) d2 d3 (R n3)) else R n2 (.bl false) from iteT (ed_mono (soE hg e n2 env _ ((T.wp_bind _ _ _).mp h3)) fun n3 d3 h4 => by
          obtain ⟨y, hy, h5⟩ := T.wp_ofO.mp ((T.wp_bind _ _ _).mp h4)
          exact o'.ok hg hy h5))
      | false => exact (show if false = true then ED c (rdE g e) n2 env (fun n3 d3 => OD c (o'.r g) d2 d3 (R n3)) else R n2 (.bl false) from iteF h3))
  | .sl a lo hi, n, env, R, h => by
      have e := hg.k
      refine (show ED c (tSl (rSlU g.K) (rdE g a) (rdO g lo) (rdO g hi)) n env R from ?_)
      rw [e]
      exact ed_sl (ed_mono (soE hg a n env _ ((T.wp_bind _ _ _).mp h)) fun n1 d h1 => pd_mono (soO hg lo n1 env _ ((T.wp_bind _ _ _).mp h1)) fun n2 l h2 => pd_mono (soO hg hi n2 env _ ((T.wp_bind _ _ _).mp h2)) fun n3 u h3 => by
        obtain ⟨z, hz, h4⟩ := T.wp_ofO.mp h3
        exact sl_ok hz h4)
  | .lc wi w tt e, n, env, R, h => ed_lcW ⟨wipE env (slotsG w), (wipE_eq env (slotsG w)).symm, wd_mono (soW hg wi n env _ ((T.wp_bind _ _ _).mp h)) fun n0 items h1 => by
      obtain ⟨h2, h3⟩ := T.wp_grd.mp h1
      refine ⟨of_decide_eq_true h2, lcT_W (fun d n k z => ?_) items n0 _ ((T.wp_bind _ _ _).mp h3)⟩
      obtain ⟨e1, q1, q2⟩ := T.wp_ofO.mp ((T.wp_bind _ _ _).mp z)
      rw [hg.k]
      refine okTg c (slotsG w) w d _ e1 _ (subG_slots w) q1 (td_mono (soT hg tt n e1 _ ((T.wp_bind _ _ _).mp q2)) fun n2 b z3 => ?_)
      cases b with
      | true => exact iteT (soE hg e n2 e1 _ ((T.wp_bind _ _ _).mp z3))
      | false => exact iteF z3⟩
  | .disp ps, n, env, R, h => ed_disp (ppd_mono (soP hg ps n env _ ((T.wp_bind _ _ _).mp h)) fun n1 es h1 => ⟨of_decide_eq_true (T.wp_grd.mp h1).1, (T.wp_grd.mp h1).2⟩)
  | .bor i a, n, env, R, h => by
    simp only [evE] at h
    split at h
    · rename_i o ho
      exact ed_bor (getE_at ho) (by rw [← setE_eq]; exact ed_mono (soE hg a n _ _ ((T.wp_bind _ _ _).mp h)) fun n1 d h1 => T.wp_grd.mp h1)
    · exact soE hg a n env R h
  | .oix i a, n, env, R, h => by
    simp only [evE] at h
    refine (show ED c (tOp (rIx g.K) (tVar i) (rdE g a)) n env R from ?_)
    rw [hg.k]
    split at h
    · rename_i ds ho
      exact ed_oix (getE_at ho) (ed_mono (soE hg a n env _ ((T.wp_bind _ _ _).mp h)) fun n1 d h1 => by
        obtain ⟨j, hj, h2⟩ := T.wp_ofO.mp ((T.wp_bind _ _ _).mp h1)
        obtain ⟨z, hz, h3⟩ := T.wp_ofO.mp h2
        exact ⟨j, z, isI_eq hj, hz, h3⟩)
    · rename_i d ho
      exact ed_op (ed_var (getE_at ho) (ed_mono (soE hg a n env _ ((T.wp_bind _ _ _).mp h)) fun n1 e h1 => by
        obtain ⟨z, hz, h2⟩ := T.wp_ofO.mp h1
        exact ix_ok hz h2))
    · exact h.elim
  | .oget i a, n, env, R, h => by
    simp only [evE] at h
    split at h
    · rename_i ds ho
      exact ed_oget (getE_at ho) (ed_mono (soE hg a n env _ ((T.wp_bind _ _ _).mp h)) fun n1 e h1 => by
        obtain ⟨z, hz, h2⟩ := T.wp_ofO.mp h1
        obtain ⟨es, k, h3, h4, h5⟩ := dget_ok hz
        cases h3
        exact ⟨k, z, h4, h5, h2⟩)
    · rename_i d ho
      refine ed_dget (ed_var (getE_at ho) (ed_mono (soE hg a n env _ ((T.wp_bind _ _ _).mp h)) fun n1 e h1 => ?_))
      obtain ⟨z, hz, h2⟩ := T.wp_ofO.mp h1
      obtain ⟨es, k, h3, h4, h5⟩ := dget_ok hz
      exact ⟨es, k, z, h3, h4, h5, h2⟩
    · exact h.elim
theorem soA (hg : GOk c g) : ∀ (e : Ar) (n : Nat) (env : DL.Env) (R : Nat → List Dv → Prop), (evA e env).wp n R noX → AD c (rdA g e) n env R
  | .nil, n, env, R, h => ad_nil h
  | .cons a as, n, env, R, h => ad_cons (ed_mono (soE hg a n env _ ((T.wp_bind _ _ _).mp h)) fun n1 d h1 => soA hg as n1 env _ ((T.wp_bind _ _ _).mp h1))
theorem soT (hg : GOk c g) : ∀ (e : Te) (n : Nat) (env : DL.Env) (R : Nat → Bool → Prop), (evT e env).wp n R noX → TD c (rdT g e) n env R
  | .tst a, n, env, R, h => td_tst (ed_mono (soE hg a n env _ ((T.wp_bind _ _ _).mp h)) fun n1 d h1 => by
      obtain ⟨b, hb, h2⟩ := T.wp_ofO.mp h1
      cases isB_eq hb
      exact h2)
  | .tb a, n, env, R, h => td_b (ed_mono (soE hg a n env _ ((T.wp_bind _ _ _).mp h)) fun n1 d h1 => by
      obtain ⟨b, hb, h2⟩ := T.wp_ofO.mp h1
      cases isB_eq hb
      exact h2)
  | .tru a, n, env, R, h => by
      refine (show TD c (fun σ H Q => rdE g a σ H fun x H' => ∃ k, TruV g.K x H' k ∧ Q k H') n env R from ?_)
      rw [hg.k]
      exact td_tru (ed_mono (soE hg a n env _ ((T.wp_bind _ _ _).mp h)) fun n1 d h1 => T.wp_ofO.mp h1)
  | .not t, n, env, R, h => td_not (soT hg t n env _ ((T.wp_bind _ _ _).mp h))
  | .and t u, n, env, R, h => td_and (td_mono (soT hg t n env _ ((T.wp_bind _ _ _).mp h)) fun n1 x h1 => by
      cases x with
      | true => exact iteT (soT hg u n1 env R h1)
      | false => exact iteF h1)
  | .or t u, n, env, R, h => td_or (td_mono (soT hg t n env _ ((T.wp_bind _ _ _).mp h)) fun n1 x h1 => by
      cases x with
      | false => exact iteF (soT hg u n1 env R h1)
      | true => exact iteT h1)
  | .yes, n, env, R, h => td_yes h
  | .bor i t, n, env, R, h => by
    simp only [evT] at h
    split at h
    · rename_i o ho
      exact td_bor (getE_at ho) (by rw [← setE_eq]; exact soT hg t n _ _ h)
    · exact soT hg t n env R h
theorem soO (hg : GOk c g) : ∀ (e : Po) (n : Nat) (env : DL.Env) (R : Nat → Option Int → Prop), (evO e env).wp n R noX → PD c (rdO g e) n env R
  | .non, n, env, R, h => pd_none h
  | .som a, n, env, R, h => pd_some (ed_mono (soE hg a n env _ ((T.wp_bind _ _ _).mp h)) fun n1 d h1 => by
      obtain ⟨i, hi, h2⟩ := T.wp_ofO.mp ((T.wp_bind _ _ _).mp h1)
      exact ⟨i, isI_eq hi, h2⟩)
theorem soW (hg : GOk c g) : ∀ (e : Wk) (n : Nat) (env : DL.Env) (R : Nat → List Dv → Prop), (evW e env).wp n R noX → WD c (rdW g e) n env R
  | .w1 o a, n, env, R, h => o.ok hg (ed_mono (soE hg a n env _ ((T.wp_bind _ _ _).mp h)) fun n1 d h1 => T.wp_ofO.mp h1)
  | .wn o as, n, env, R, h => o.ok hg (ad_mono (soA hg as n env _ ((T.wp_bind _ _ _).mp h)) fun n1 ds h1 => T.wp_ofO.mp h1)
theorem soP (hg : GOk c g) : ∀ (e : Pr) (n : Nat) (env : DL.Env) (R : Nat → List (Key × Dv) → Prop), (evP e env).wp n R noX → PPD c (rdP g e) n env R
  | .nil, n, env, R, h => ppd_nil h
  | .cons a b ps, n, env, R, h => ppd_cons (ed_mono (soE hg a n env _ ((T.wp_bind _ _ _).mp h)) fun n1 d h1 => by
      obtain ⟨k, hk, h2⟩ := T.wp_ofO.mp ((T.wp_bind _ _ _).mp h1)
      exact ⟨k, hk, ed_mono (soE hg b n1 env _ ((T.wp_bind _ _ _).mp h2)) fun n2 e h3 => soP hg ps n2 env _ ((T.wp_bind _ _ _).mp h3)⟩)
end
end
end DL

set_option Elab.async false
set_option linter.all false
set_option maxRecDepth 100000
set_option maxHeartbeats 2000000
/-! F2: statements of a def as data; a def. -/
namespace DL
open PySem PySem.Spec L2
inductive Out where
  | nx (e : DL.Env) | rt (d : Dv) | bk (e : DL.Env) | ct (e : DL.Env)
def outP (N : DN) (n : Nat) : Out → Prop
  | .nx e => N.nx n e
  | .rt d => N.rt n d
  | .bk e => N.bk n e
  | .ct e => N.ct n e
inductive Sm
  | seq (a b : Sm) | nx | brk | cnt | ret (e : Ex) | retN
  | iff (t : Te) (a b : Sm)
  | for (wi : Wk) (g : Tg) (b : Sm) (fg : List Nat)
  | whl (t : Te) (b : Sm) (fg : List Nat)
  | asg (e : Ex) (g : Tg)
  | par2 (i j : Nat) (as : Ar) | par3 (i j m : Nat) (as : Ar)
  | drop (e : Ex)
  | newL (i : Nat) (as : Ar) | newD (i : Nat)
  | app (i : Nat) (e : Ex) | ext (i : Nat) (e : Ex) | pop0 (i : Nat) | pop (i j : Nat)
  | oset (i : Nat) (ti e : Ex) | oput (i : Nat) (ti e : Ex)
  | frz (i : Nat) (b : Sm) | fgt (is : List Nat) (b : Sm)
  | s0 (t : Gx → TS) (f : DL.Env → T Out) (ok : ∀ {c : Cn} {g : Gx}, GOk c g → ∀ (n : Nat) (env : DL.Env) (N : DN), (f env).wp n (outP N) noX → SD c (t g) n env N)
def rdS (g : Gx) : Sm → TS
  | .seq a b => tSeq (rdS g a) (rdS g b)
  | .nx => tNext
  | .brk => tBreak
  | .cnt => tCont
  | .ret e => tRet (rdE g e)
  | .retN => tRetN
  | .iff t a b => tIfS (rdT g t) (rdS g a) (rdS g b)
  | .for wi w b _ => tFor (rdW g wi) (rdG g.K w) (rdS g b)
  | .whl t b _ => tWhile (rdT g t) (rdS g b)
  | .asg e w => tAsg (rdE g e) (rdG g.K w)
  | .par2 i j as => tPar i j (rdA g as)
  | .par3 i j m as => tPar3 i j m (rdA g as)
  | .drop e => tDrop (rdE g e)
  | .newL i as => tAsg (tLst (rdA g as)) (gName i)
  | .newD i => tAsg tDNewK (gName i)
  | .app i e => tDrop (tBM g.K "list" rAppend (tVar i) (tCons (rdE g e) tNil))
  | .ext i e => tDrop (tBM g.K "list" rExtend (tVar i) (tCons (rdE g e) tNil))
  | .pop0 i => tDrop (tBM0 g.K "list" rPop (tVar i))
  | .pop i j => tAsg (tBM0 g.K "list" rPop (tVar i)) (gName j)
  | .oset i ti e => tAsg (rdE g e) (gSub (tVar i) (rdE g ti) rSetL)
  | .oput i ti e => sDPut (tVar i) (rdE g ti) (rdE g e)
  | .frz _ b => rdS g b
  | .fgt _ b => rdS g b
  | .s0 t _ _ => t g
def ownL (env : DL.Env) (i : Nat) : Option (List Dv) := match getE env i with
  | some (.own (.lst ds)) => some ds
  | _ => none
theorem ownL_at {env : DL.Env} {i : Nat} {ds : List Dv} (h : ownL env i = some ds) : env[i]? = some (some (.own (.lst ds))) := by
  unfold ownL at h
  split at h
  · rename_i q
    cases h
    exact getE_at q
  · cases h
def ownD (env : DL.Env) (i : Nat) : Option (List (Key × Dv)) := match getE env i with
  | some (.own (.dic ds)) => some ds
  | _ => none
theorem ownD_at {env : DL.Env} {i : Nat} {ds : List (Key × Dv)} (h : ownD env i = some ds) : env[i]? = some (some (.own (.dic ds))) := by
  unfold ownD at h
  split at h
  · rename_i q
    cases h
    exact getE_at q
  · cases h
/-- a loop, item by item -/
def forT (st : Dv → DL.Env → T Out) (fg : List Nat) : List Dv → DL.Env → T Out
  | [], env => .ret (.nx env)
  | d :: ds, env => (st d env).bind fun o => match o with
    | .nx e => forT st fg ds (forE e fg)
    | .ct e => forT st fg ds (forE e fg)
    | .bk e => .ret (.nx e)
    | .rt v => .ret (.rt v)
def whlT (tst : DL.Env → T Bool) (bdy : DL.Env → T Out) (fg : List Nat) : Nat → DL.Env → T Out
  | 0, _ => .fail
  | k + 1, env => (tst env).bind fun x => T.ite x ((bdy env).bind fun o => match o with
    | .nx e => whlT tst bdy fg k (forE e fg)
    | .ct e => whlT tst bdy fg k (forE e fg)
    | .bk e => .ret (.nx e)
    | .rt v => .ret (.rt v)) (.ret (.nx env))
def wfuel : Nat := 1000000
def andThen (m : T Out) (k : DL.Env → T Out) : T Out := m.bind fun o => match o with
  | .nx e => k e
  | .rt v => .ret (.rt v)
  | .bk e => .ret (.bk e)
  | .ct e => .ret (.ct e)
@[simp] theorem andThen_nx (e : DL.Env) (k : DL.Env → T Out) : andThen (.ret (.nx e)) k = k e := rfl
@[simp] theorem andThen_rt (v : Dv) (k : DL.Env → T Out) : andThen (.ret (.rt v)) k = .ret (.rt v) := rfl
@[simp] theorem andThen_fail (k : DL.Env → T Out) : andThen .fail k = .fail := rfl
def evS : Sm → DL.Env → T Out
  | .seq a b, env => andThen (evS a env) fun e => evS b e
  | .nx, env => .ret (.nx env)
  | .brk, env => .ret (.bk env)
  | .cnt, env => .ret (.ct env)
  | .ret e, env => (evE e env).bind fun d => .ret (.rt d)
  | .retN, _ => .ret (.rt .non)
  | .iff t a b, env => (evT t env).bind fun x => T.ite x (evS a env) (evS b env)
  | .for wi g b fg, env => (evW wi env).bind fun items => forT (fun d env => (T.ofO (evG g d env)).bind fun env => evS b env) fg items env
  | .whl t b fg, env => whlT (fun env => evT t env) (fun env => evS b env) fg wfuel env
  | .asg e g, env => (evE e env).bind fun d => (T.ofO (evG g d env)).bind fun env => .ret (.nx env)
  | .par2 i j as, env => (evA as env).bind fun ds => match ds with
    | [d, e] => .ret (.nx (setE (setE env i (some (.fz d))) j (some (.fz e))))
    | _ => .fail
  | .par3 i j m as, env => (evA as env).bind fun ds => match ds with
    | [d, e, f] => .ret (.nx (setE (setE (setE env i (some (.fz d))) j (some (.fz e))) m (some (.fz f))))
    | _ => .fail
  | .drop e, env => (evE e env).bind fun _ => .ret (.nx env)
  | .newL i as, env => (evA as env).bind fun ds => T.grd (decide (ds.length ≤ sizeLine)) (.ret (.nx (setE env i (some (.own (.lst ds))))))
  | .newD i, env => .ret (.nx (setE env i (some (.own (.dic [])))))
  | .app i e, env => (T.ofO (ownL env i)).bind fun ds => (evE e env).bind fun d => T.grd (decide (ds.length < sizeLine)) (.ret (.nx (setE env i (some (.own (.lst (ds ++ [d])))))))
  | .ext i e, env => (T.ofO (ownL env i)).bind fun ds => (evE e env).bind fun d => match d with
    | .lst es => T.grd (decide (ds.length + es.length ≤ sizeLine)) (.ret (.nx (setE env i (some (.own (.lst (ds ++ es)))))))
    | _ => .fail
  | .pop0 i, env => (T.ofO (ownL env i)).bind fun ds => (T.ofO ds.getLast?).bind fun _ => .ret (.nx (setE env i (some (.own (.lst ds.dropLast)))))
  | .pop i j, env => (T.ofO (ownL env i)).bind fun ds => (T.ofO ds.getLast?).bind fun d => .ret (.nx (setE (setE env i (some (.own (.lst ds.dropLast)))) j (some (.fz d))))
  | .oset i ti e, env => (T.ofO (ownL env i)).bind fun ds => (evE e env).bind fun d => (evE ti env).bind fun x => (T.ofO (isI x)).bind fun k => (T.ofO (ixN ds.length k)).bind fun j => .ret (.nx (setE env i (some (.own (.lst (ds.set j d))))))
  | .oput i ti e, env => (T.ofO (ownD env i)).bind fun es => (evE e env).bind fun d => (evE ti env).bind fun x => (T.ofO (keyD x)).bind fun k => T.grd (decide (es.length < sizeLine)) (.ret (.nx (setE env i (some (.own (.dic (putD es k d)))))))
  | .frz i b, env => match getE env i with
    | some (.own o) => evS b (setE env i (some (.fz (obD o))))
    | _ => evS b env
  | .fgt is b, env => evS b (forE env is)
  | .s0 _ f _, env => f env
section
variable {c : Cn} {g : Gx}
theorem sd_fgt {t : TS} {n : Nat} {env : DL.Env} {N : DN} (is : List Nat) (h : SD c t n (forE env is) N) : SD c t n env N := fun B H σ b r => h B H σ b (forE_rel is r)
theorem sd_fg2 {t : TS} {n : Nat} {env : DL.Env} {k : Nat → DL.Env → Prop} {rt : Nat → Dv → Prop} {bk : Nat → DL.Env → Prop} (fg : List Nat) (h : SD c t n env ⟨fun n e => k n (forE e fg), rt, bk, fun n e => k n (forE e fg)⟩) : SD c t n env ⟨k, rt, bk, k⟩ :=
  fun B H σ b r D l => h B H σ b r D ⟨fun B2 H2 σ2 n2 env2 s b r h => l.nx B2 H2 σ2 n2 (forE env2 fg) s b (forE_rel fg r) h, l.bk, fun B2 H2 σ2 n2 env2 s b r h => l.ct B2 H2 σ2 n2 (forE env2 fg) s b (forE_rel fg r) h, l.rt⟩
theorem loop_N {N : DN} {K : DL.Env → T Out} {fg : List Nat} {n : Nat} {o : Out} (h : (match o with
    | .nx e => K (forE e fg)
    | .ct e => K (forE e fg)
    | .bk e => .ret (.nx e)
    | .rt v => .ret (.rt v) : T Out).wp n (outP N) noX) : outP ⟨fun n e => (K (forE e fg)).wp n (outP N) noX, N.rt, N.nx, fun n e => (K (forE e fg)).wp n (outP N) noX⟩ n o := by
  cases o <;> exact h
theorem forT_U {w : TG} {tb : TS} {N : DN} {vs : List Nat} {st : Dv → DL.Env → T Out} {fg : List Nat}
    (hs : ∀ d n env (N : DN), (st d env).wp n (outP N) noX → GD c w vs d env fun env2 => SD c tb n env2 N) : ∀ (l : List Dv) (n : Nat) (env : DL.Env), (forT st fg l env).wp n (outP N) noX → ForU c w vs tb N l n env
  | [], n, env, h => forU_nil h
  | d :: l, n, env, h => by
    have h1 := (T.wp_bind _ _ _).mp h
    have h2 := T.wp_mono (R' := outP ⟨fun n e => (forT st fg l (forE e fg)).wp n (outP N) noX, N.rt, N.nx, fun n e => (forT st fg l (forE e fg)).wp n (outP N) noX⟩) (fun n o z => loop_N (K := forT st fg l) z) (fun _ _ z => z) _ _ h1
    refine forU_cons (gd_mono (hs d n env _ h2) fun env2 h3 => ?_)
    refine sd_mono (sd_fg2 (k := fun n e => (forT st fg l e).wp n (outP N) noX) (rt := N.rt) (bk := N.nx) fg h3) (fun n e z => forT_U hs l n e z) (fun _ _ z => z) (fun _ _ z => z) (fun n e z => forT_U hs l n e z)
theorem seq_N {N : DN} {K : DL.Env → T Out} {n : Nat} {o : Out} (h : (match o with
    | .nx e => K e
    | .rt v => .ret (.rt v)
    | .bk e => .ret (.bk e)
    | .ct e => .ret (.ct e) : T Out).wp n (outP N) noX) : outP ⟨fun n e => (K e).wp n (outP N) noX, N.rt, N.bk, N.ct⟩ n o := by
  cases o <;> exact h
theorem soS (hg : GOk c g) : ∀ (s : Sm) (n : Nat) (env : DL.Env) (N : DN), (evS s env).wp n (outP N) noX → SD c (rdS g s) n env N
  | .seq a b, n, env, N, h => by
      have h1 := T.wp_mono (R' := outP ⟨fun n e => (evS b e).wp n (outP N) noX, N.rt, N.bk, N.ct⟩) (fun n o z => seq_N (K := fun e => evS b e) z) (fun _ _ z => z) _ _ ((T.wp_bind _ _ _).mp h)
      exact sd_seq (sd_mono (soS hg a n env _ h1) (fun n e z => soS hg b n e N z) (fun _ _ z => z) (fun _ _ z => z) (fun _ _ z => z))
  | .nx, n, env, N, h => sd_next h
  | .brk, n, env, N, h => sd_break h
  | .cnt, n, env, N, h => sd_cont h
  | .ret e, n, env, N, h => sd_ret (soE hg e n env _ ((T.wp_bind _ _ _).mp h))
  | .retN, n, env, N, h => sd_retN h
  | .iff t a b, n, env, N, h => sd_if (td_mono (soT hg t n env _ ((T.wp_bind _ _ _).mp h)) fun n x z => by
      cases x with
      | true => exact iteT (soS hg a n env N z)
      | false => exact iteF (soS hg b n env N z))
  | .for wi w b fg, n, env, N, h => sd_forU (vs := slotsG w) (wd_mono (soW hg wi n env _ ((T.wp_bind _ _ _).mp h)) fun n items z => forT_U (fun d n env N y => by
      obtain ⟨e1, q1, q2⟩ := T.wp_ofO.mp ((T.wp_bind _ _ _).mp y)
      rw [hg.k]
      exact okTg c _ w d env e1 _ (subG_slots w) q1 (soS hg b n e1 _ q2)) items n env z)
  | .whl t b fg, n, env, N, h => by
      refine sd_while (fun m n env => (whlT (fun env => evT t env) (fun env => evS b env) fg m env).wp n (outP N) noX) (m0 := wfuel) h fun m n env z => ?_
      cases m with
      | zero => exact z.elim
      | succ k =>
        refine td_mono (soT hg t n env _ ((T.wp_bind _ _ _).mp z)) fun n x y => ?_
        cases x with
        | true =>
          have h1 := T.wp_mono (R' := outP ⟨fun n e => (whlT (fun env => evT t env) (fun env => evS b env) fg k (forE e fg)).wp n (outP N) noX, N.rt, N.nx, fun n e => (whlT (fun env => evT t env) (fun env => evS b env) fg k (forE e fg)).wp n (outP N) noX⟩) (fun n o z => loop_N (K := whlT (fun env => evT t env) (fun env => evS b env) fg k) z) (fun _ _ z => z) _ _ ((T.wp_bind _ (evS b env) _).mp y)
          refine iteT (sd_fg2 (k := fun n e => ∃ m' < k + 1, (whlT (fun env => evT t env) (fun env => evS b env) fg m' e).wp n (outP N) noX) fg (sd_mono (soS hg b n env _ h1) (fun n e z => ⟨k, by omega, z⟩) (fun _ _ z => z) (fun _ _ z => z) (fun n e z => ⟨k, by omega, z⟩)))
        | false => exact iteF y
  | .asg e w, n, env, N, h => sd_asgG (vs := slotsG w) (ed_mono (soE hg e n env _ ((T.wp_bind _ _ _).mp h)) fun n d z => by
      obtain ⟨e1, q1, q2⟩ := T.wp_ofO.mp ((T.wp_bind _ _ _).mp z)
      rw [hg.k]
      exact okTg c _ w d env e1 _ (subG_slots w) q1 q2)
  | .par2 i j as, n, env, N, h => sd_par (ad_mono (soA hg as n env _ ((T.wp_bind _ _ _).mp h)) fun n ds z => by
      split at z
      · exact ⟨_, _, rfl, by rw [← setE_eq, ← setE_eq]; exact z⟩
      · exact z.elim)
  | .par3 i j m as, n, env, N, h => sd_par3 (ad_mono (soA hg as n env _ ((T.wp_bind _ _ _).mp h)) fun n ds z => by
      split at z
      · exact ⟨_, _, _, rfl, by rw [← setE_eq, ← setE_eq, ← setE_eq]; exact z⟩
      · exact z.elim)
  | .drop e, n, env, N, h => sd_drop (soE hg e n env _ ((T.wp_bind _ _ _).mp h))
  | .newL i as, n, env, N, h => sd_own (fd_lst (ad_mono (soA hg as n env _ ((T.wp_bind _ _ _).mp h)) fun n ds z => ⟨of_decide_eq_true (T.wp_grd.mp z).1, by rw [← setE_eq]; exact (T.wp_grd.mp z).2⟩))
  | .newD i, n, env, N, h => sd_newD (by rw [← setE_eq]; exact h)
  | .app i e, n, env, N, h => by
      obtain ⟨ds, h1, h2⟩ := T.wp_ofO.mp ((T.wp_bind _ _ _).mp h)
      refine (show SD c (tDrop (tBM g.K "list" rAppend (tVar i) (tCons (rdE g e) tNil))) n env N from ?_)
      rw [hg.k]
      exact sd_append (ownL_at h1) (ed_mono (soE hg e n env _ ((T.wp_bind _ _ _).mp h2)) fun n d z => ⟨of_decide_eq_true (T.wp_grd.mp z).1, by rw [← setE_eq]; exact (T.wp_grd.mp z).2⟩)
  | .ext i e, n, env, N, h => by
      obtain ⟨ds, h1, h2⟩ := T.wp_ofO.mp ((T.wp_bind _ _ _).mp h)
      refine (show SD c (tDrop (tBM g.K "list" rExtend (tVar i) (tCons (rdE g e) tNil))) n env N from ?_)
      rw [hg.k]
      exact sd_oext (ownL_at h1) (ed_mono (soE hg e n env _ ((T.wp_bind _ _ _).mp h2)) fun n d z => by
        split at z
        · exact ⟨_, rfl, of_decide_eq_true (T.wp_grd.mp z).1, by rw [← setE_eq]; exact (T.wp_grd.mp z).2⟩
        · exact z.elim)
  | .pop0 i, n, env, N, h => by
      obtain ⟨ds, h1, h2⟩ := T.wp_ofO.mp ((T.wp_bind _ _ _).mp h)
      obtain ⟨d, h3, h4⟩ := T.wp_ofO.mp ((T.wp_bind _ _ _).mp h2)
      refine (show SD c (tDrop (tBM0 g.K "list" rPop (tVar i))) n env N from ?_)
      rw [hg.k]
      exact sd_opop0 (ownL_at h1) h3 (by rw [← setE_eq]; exact h4)
  | .pop i j, n, env, N, h => by
      obtain ⟨ds, h1, h2⟩ := T.wp_ofO.mp ((T.wp_bind _ _ _).mp h)
      obtain ⟨d, h3, h4⟩ := T.wp_ofO.mp ((T.wp_bind _ _ _).mp h2)
      refine (show SD c (tAsg (tBM0 g.K "list" rPop (tVar i)) (gName j)) n env N from ?_)
      rw [hg.k]
      exact sd_opop (ownL_at h1) h3 (by rw [← setE_eq, ← setE_eq]; exact h4)
  | .oset i ti e, n, env, N, h => by
      obtain ⟨ds, h1, h2⟩ := T.wp_ofO.mp ((T.wp_bind _ _ _).mp h)
      exact sd_oset (ownL_at h1) (ed_mono (soE hg e n env _ ((T.wp_bind _ _ _).mp h2)) fun n d z => ed_mono (soE hg ti n env _ ((T.wp_bind _ _ _).mp z)) fun n x y => by
        obtain ⟨k, h3, h4⟩ := T.wp_ofO.mp ((T.wp_bind _ _ _).mp y)
        obtain ⟨j, h5, h6⟩ := T.wp_ofO.mp ((T.wp_bind _ _ _).mp h4)
        exact ⟨k, j, isI_eq h3, h5, by rw [← setE_eq]; exact h6⟩)
  | .oput i ti e, n, env, N, h => by
      obtain ⟨ds, h1, h2⟩ := T.wp_ofO.mp ((T.wp_bind _ _ _).mp h)
      exact sd_oput (ownD_at h1) (ed_mono (soE hg e n env _ ((T.wp_bind _ _ _).mp h2)) fun n d z => ed_mono (soE hg ti n env _ ((T.wp_bind _ _ _).mp z)) fun n x y => by
        obtain ⟨k, h3, h4⟩ := T.wp_ofO.mp ((T.wp_bind _ _ _).mp y)
        exact ⟨k, h3, of_decide_eq_true (T.wp_grd.mp h4).1, by rw [← setE_eq]; exact (T.wp_grd.mp h4).2⟩)
  | .frz i b, n, env, N, h => by
      simp only [evS] at h
      split at h
      · rename_i o ho
        exact sd_freezeO i (getE_at ho) (by rw [← setE_eq]; exact soS hg b n _ N h)
      · exact soS hg b n env N h
  | .fgt is b, n, env, N, h => sd_fgt is (soS hg b n _ N h)
  | .s0 t f ok, n, env, N, h => ok hg n env N h
end
/-! ### a def -/
def envS (k : Nat) : List Dv → DL.Env
  | [] => List.replicate k none
  | d :: ds => some (.fz d) :: envS (k - 1) ds
theorem envS_eq : ∀ (ds : List Dv) (k : Nat), envS k ds = startD k ds
  | [], k => by simp [envS, startD]
  | d :: ds, k => by
    simp only [envS, envS_eq ds (k - 1), startD, List.map_cons, List.cons_append, List.length_cons]
    congr 3
    omega
def outV : Out → T Dv
  | .rt d => .ret d
  | .nx _ => .ret .non
  | _ => .fail
/-- what a def answers: p parameters, k locals -/
def runF (p k : Nat) (q : Sm) (ds : List Dv) : T Dv := T.grd (ds.length == p) ((evS q (envS k ds)).bind outV)
/-- its promise -/
def ctF (F : List Dv → T Dv) : Ct := fun n ds R => (F ds).wp n R noX
theorem fnF {P : Program} {w : World} {K : PySem.W.Frag} {mg : Str → Option Value} {base : Heap} {k : Nat} {f : Addr} {fd : FuncData} {ps : List Str} {x qual : Str} {st : Stmt} {NN : List Str} {q : Sm} {p l : Nat}
    (F : Fun K x qual st f fd) (S : FnScope NN ps (defScope st)) (hp : ps.length = p) (hl : NN.length = l)
    (hb : ∀ (cdv : Value) (A : Around) (outer : List PySem.Env) (s : Shared) (H : Hp) (E : XK), A.guards = some [] →
      Room k (A.deeper (PyProof.Rows.envOfC qual (defScope st) s.heap.objs.size f cdv)) →
      PSs (cxOf CX0 P w K mg base NN qual (defScope st) f cdv A outer s H E).nox (defBody st) (rdS ⟨K, mg⟩ q)) :
    FnG P w K mg base CX0 (k + 1) f fd ps (spD K mg (ctF (runF p l q))) := by
  refine fnD F S (fun n ds R h => ?_) fun cdv A outer s H E hg hr => ⟨_, hb cdv A outer s H E hg hr, fun n ds R hC c hK hM => ?_⟩
  · have := (T.wp_grd.mp h).1
    rw [hp]
    simpa using this
  · obtain ⟨h1, h2⟩ := T.wp_grd.mp hC
    rw [hl, ← envS_eq]
    refine soS ⟨hK.symm, hM.symm⟩ q n _ _ (T.wp_mono (fun n o z => ?_) (fun _ _ z => z) _ _ ((T.wp_bind _ _ _).mp h2))
    cases o <;> first | exact z | exact z.elim
end DL

set_option Elab.async false
set_option linter.all false
set_option maxRecDepth 100000
set_option maxHeartbeats 2000000
/-! F3: the operators and built-ins. -/
namespace DL
open PySem PySem.Spec L2
def gO {α : Type} (b : Bool) (x : α) : Option α := match b with
  | true => some x
  | false => none
@[simp] theorem gO_true {α : Type} (x : α) : gO true x = some x := rfl
theorem gO_eq {α : Type} {b : Bool} {x z : α} (h : gO b x = some z) : b = true ∧ z = x := by
  cases b with
  | true => cases h; exact ⟨rfl, rfl⟩
  | false => cases h
theorem gO_dec {α : Type} {p : Prop} [Decidable p] {x z : α} (h : gO (decide p) x = some z) : p ∧ z = x := ⟨of_decide_eq_true (gO_eq h).1, (gO_eq h).2⟩
/-! ### arithmetic -/
def addF (d e : Dv) : Option Dv := match d, e with
  | .int i, .int j => some (.int (i + j))
  | .str a, .str b => gO (decide (a.length + b.length ≤ sizeLine)) (.str (a ++ b))
  | .lst ds, .lst es => gO (decide (ds.length + es.length ≤ sizeLine)) (.lst (ds ++ es))
  | .tup ds, .tup es => gO (decide (ds.length + es.length ≤ sizeLine)) (.tup (ds ++ es))
  | .bl a, .int j => some (.int ((if a = true then 1 else 0) + j))
  | .int i, .bl b => some (.int (i + (if b = true then 1 else 0)))
  | _, _ => none
def addO : R2O := ⟨fun g => rAddV g.K, addF, @fun c g hg d e z R h k => by
  rw [hg.k]
  unfold addF at h
  split at h
  · cases h; exact oa_i k
  · obtain ⟨h1, rfl⟩ := gO_dec h; exact oA (od_adds h1 k)
  · obtain ⟨h1, rfl⟩ := gO_dec h; exact oA (od_addl h1 k)
  · obtain ⟨h1, rfl⟩ := gO_dec h; exact oA (od_addt h1 k)
  · cases h; exact oa_bi k
  · cases h; exact oa_ib k
  · cases h⟩
def subF (d e : Dv) : Option Dv := match d, e with
  | .int i, .int j => some (.int (i - j))
  | .bl a, .int j => some (.int ((if a = true then 1 else 0) - j))
  | _, _ => none
def subO : R2O := ⟨fun _ => rSubV, subF, @fun c g hg d e z R h k => by
  unfold subF at h
  split at h
  · cases h; exact os_i k
  · cases h; exact os_bi k
  · cases h⟩
def smallI (i : Int) : Bool := decide (-(2 ^ 64) < i ∧ i < 2 ^ 64)
def mulF (d e : Dv) : Option Dv := match d, e with
  | .int i, .int j => gO (smallI i || smallI j) (.int (i * j))
  | .lst ds, .int j => gO (decide (0 ≤ j ∧ j < 2 ^ 63 ∧ ds.length * j.toNat ≤ sizeLine)) (.lst (List.replicate j.toNat ds).flatten)
  | _, _ => none
def mulO : R2O := ⟨fun _ => rMulU, mulF, @fun c g hg d e z R h k => by
  unfold mulF at h
  split at h
  · obtain ⟨h1, rfl⟩ := gO_eq h
    rw [Bool.or_eq_true] at h1
    exact od_mul (h1.imp (fun z => of_decide_eq_true z) fun z => of_decide_eq_true z) k
  · obtain ⟨⟨h0, h1, h2⟩, rfl⟩ := gO_dec h
    rename_i ds j
    obtain ⟨m, rfl⟩ : ∃ m : Nat, j = (m : Int) := ⟨j.toNat, by omega⟩
    exact od_rep h1 (by simpa using h2) (by simpa using k)
  · cases h⟩
def fdivF (d e : Dv) : Option Dv := match d, e with
  | .int i, .int j => gO (decide (0 < j ∧ j < 1073741824)) (.int (i / j))
  | _, _ => none
def fdivO : R2O := ⟨fun _ => rI CDiv fun i j => .int (i / j), fdivF, @fun c g hg d e z R h k => by
  unfold fdivF at h
  split at h
  · obtain ⟨h1, rfl⟩ := gO_dec h; exact of_div h1.1 h1.2 k
  · cases h⟩
def modF (d e : Dv) : Option Dv := match d, e with
  | .int i, .int j => gO (decide (0 < j)) (.int (i % j))
  | _, _ => none
def modO : R2O := ⟨fun _ => rI (fun _ j => 0 < j) fun i j => .int (i % j), modF, @fun c g hg d e z R h k => by
  unfold modF at h
  split at h
  · obtain ⟨h1, rfl⟩ := gO_dec h; exact od_mod h1 k
  · cases h⟩
def powF (d e : Dv) : Option Dv := match d, e with
  | .int i, .int j => gO (decide (0 ≤ j ∧ j ≤ 1000000 ∧ i.natAbs < 2 ^ 64)) (.int (i ^ j.toNat))
  | _, _ => none
def powO : R2O := ⟨fun _ => rI CPow fun i j => .int (i ^ j.toNat), powF, @fun c g hg d e z R h k => by
  unfold powF at h
  split at h
  · obtain ⟨h1, rfl⟩ := gO_dec h; exact op_lit h1 k
  · cases h⟩
def ixO : R2O := ⟨fun g => rIx g.K, ixF, @fun c g hg d e z R h k => by rw [hg.k]; exact ix_ok h k⟩
def negF (d : Dv) : Option Dv := match d with
  | .int i => some (.int (-i))
  | _ => none
def negO : O1 := ⟨fun _ => tUn (rU fun i => .int (-i)), negF, @fun c g hg te n env R h => ed_un (ed_mono h fun n1 d ⟨z, h1, h2⟩ => by
  cases d <;> cases h1
  exact ud_neg h2)⟩
/-! ### comparisons -/
mutual
/-- no object within, texts of signs, at most so deep -/
def shD : Nat → Dv → Bool
  | _, .non => true
  | _, .bl _ => true
  | _, .int _ => true
  | _, .str x => PyData.strOk x
  | k + 1, .tup ds => shA k ds
  | k + 1, .lst ds => shA k ds
  | _, _ => false
def shA : Nat → List Dv → Bool
  | _, [] => true
  | k, d :: ds => shD k d && shA k ds
end
mutual
theorem sh_ok : ∀ (k : Nat) (d : Dv), shD k d = true → plain d = true ∧ (py d).canLay0 = true ∧ (py d).depth ≤ k
  | k, .non, _ => ⟨rfl, rfl, by simp [py, PyData.depth]⟩
  | k, .bl _, _ => ⟨rfl, rfl, by simp [py, PyData.depth]⟩
  | k, .int _, _ => ⟨rfl, rfl, by simp [py, PyData.depth]⟩
  | k, .str x, h => ⟨rfl, by simpa [shD, py, PyData.canLay0] using h, by simp [py, PyData.depth]⟩
  | k + 1, .tup ds, h => by
    obtain ⟨h1, h2, h3⟩ := shA_ok k ds (by simpa [shD] using h)
    exact ⟨by simpa [plain] using h1, by simpa [py, PyData.canLay0] using h2, by simp only [py, PyData.depth]; omega⟩
  | k + 1, .lst ds, h => by
    obtain ⟨h1, h2, h3⟩ := shA_ok k ds (by simpa [shD] using h)
    exact ⟨by simpa [plain] using h1, by simpa [py, PyData.canLay0] using h2, by simp only [py, PyData.depth]; omega⟩
  | 0, .tup ds, h => by simp [shD] at h
  | 0, .lst ds, h => by simp [shD] at h
  | k, .dic _, h => by cases k <;> simp [shD] at h
  | k, .dct _, h => by cases k <;> simp [shD] at h
  | k, .ins _ _, h => by cases k <;> simp [shD] at h
  | k, .deck _, h => by cases k <;> simp [shD] at h
  | k, .scr _, h => by cases k <;> simp [shD] at h
theorem shA_ok : ∀ (k : Nat) (ds : List Dv), shA k ds = true → plainA ds = true ∧ PyData.canLayAll0 (pyA ds) = true ∧ PyData.depthAll (pyA ds) ≤ k
  | k, [], _ => ⟨rfl, rfl, by simp [pyA, PyData.depthAll]⟩
  | k, d :: ds, h => by
    simp only [shA, Bool.and_eq_true] at h
    obtain ⟨a1, a2, a3⟩ := sh_ok k d h.1
    obtain ⟨b1, b2, b3⟩ := shA_ok k ds h.2
    exact ⟨by simp [plainA, a1, b1], by simp [pyA, PyData.canLayAll0, a2, b2], by simp only [pyA, PyData.depthAll]; omega⟩
end
theorem sh_shaped {d : Dv} (h : shD 60 d = true) : plain d = true ∧ SeqAt.shaped (py d) = true := by
  obtain ⟨h1, h2, h3⟩ := sh_ok 60 d h
  refine ⟨h1, ?_⟩
  unfold SeqAt.shaped
  rw [h2, Bool.true_and]
  exact decide_eq_true (by omega)
mutual
/-- == of trees -/
def eqP : Dv → Dv → Bool
  | .non, e => match e with | .non => true | _ => false
  | .bl a, e => match e with | .bl b => a == b | .int j => (if a = true then 1 else 0) == j | _ => false
  | .int i, e => match e with | .int j => i == j | .bl b => i == (if b = true then 1 else 0) | _ => false
  | .str x, e => match e with | .str y => x == y | _ => false
  | .tup ds, e => match e with | .tup es => eqPA ds es | _ => false
  | .lst ds, e => match e with | .lst es => eqPA ds es | _ => false
  | _, _ => false
def eqPA : List Dv → List Dv → Bool
  | [], es => match es with | [] => true | _ :: _ => false
  | d :: ds, es => match es with | [] => false | e :: es => eqP d e && eqPA ds es
end
mutual
theorem eqP_eqv : ∀ (k l : Nat) (d e : Dv), shD k d = true → shD l e = true → PyData.eqv (py d) (py e) = eqP d e
  | k, l, .non, e, _, h => by cases e <;> first | rfl | simp [shD] at h
  | k, l, .bl a, e, _, h => by cases e <;> first | rfl | simp [shD] at h
  | k, l, .int a, e, _, h => by cases e <;> first | rfl | simp [shD] at h
  | k, l, .str a, e, _, h => by cases e <;> first | rfl | simp [shD] at h
  | k + 1, l, .tup ds, e, h, h' => by
    cases e <;> try first | rfl | (simp [shD] at h'; done)
    rename_i es
    cases l with
    | zero => simp [shD] at h'
    | succ l => exact eqPA_eqv k l ds es (by simpa [shD] using h) (by simpa [shD] using h')
  | k + 1, l, .lst ds, e, h, h' => by
    cases e <;> try first | rfl | (simp [shD] at h'; done)
    rename_i es
    cases l with
    | zero => simp [shD] at h'
    | succ l => exact eqPA_eqv k l ds es (by simpa [shD] using h) (by simpa [shD] using h')
  | 0, _, .tup ds, _, h, _ => by simp [shD] at h
  | 0, _, .lst ds, _, h, _ => by simp [shD] at h
  | k, _, .dic _, _, h, _ => by cases k <;> simp [shD] at h
  | k, _, .dct _, _, h, _ => by cases k <;> simp [shD] at h
  | k, _, .ins _ _, _, h, _ => by cases k <;> simp [shD] at h
  | k, _, .deck _, _, h, _ => by cases k <;> simp [shD] at h
  | k, _, .scr _, _, h, _ => by cases k <;> simp [shD] at h
theorem eqPA_eqv : ∀ (k l : Nat) (ds es : List Dv), shA k ds = true → shA l es = true → PyData.eqvAll (pyA ds) (pyA es) = eqPA ds es
  | k, l, [], es, _, _ => by cases es <;> rfl
  | k, l, d :: ds, es, h, h' => by
    cases es with
    | nil => rfl
    | cons e es =>
      simp only [shA, Bool.and_eq_true] at h h'
      show (PyData.eqv (py d) (py e) && PyData.eqvAll (pyA ds) (pyA es)) = (eqP d e && eqPA ds es)
      rw [eqP_eqv k l d e h.1 h'.1, eqPA_eqv k l ds es h.2 h'.2]
end
def eqG (d e : Dv) : Option Bool := gO (shD 60 d && shD 60 e) (eqP d e)
def eqF (d e : Dv) : Option Bool := match d, e with
  | .str a, .str b => some (a == b)
  | .int a, .int b => some (a == b)
  | .bl a, .bl b => some (a == b)
  | .tup ds, .tup [] => some ds.isEmpty
  | .lst ds, .lst [] => some ds.isEmpty
  | d, e => eqG d e
theorem str_beq (a b : Str) : (a == b) = decide (a = b) := by
  by_cases h : a = b
  · subst h; simp
  · rw [decide_eq_false h]; exact beq_eq_false_iff_ne.mpr h
theorem int_beq (a b : Int) : (a == b) = decide (a = b) := by
  by_cases h : a = b
  · subst h; simp
  · rw [decide_eq_false h]; exact beq_eq_false_iff_ne.mpr h
theorem eqG_ok {c : Cn} {d e : Dv} {b : Bool} {R : Dv → Prop} (h : eqG d e = some b) (k : R (.bl b)) : OD c (rEqW c.K false) d e R := by
  obtain ⟨q, rfl⟩ := gO_eq h
  rw [Bool.and_eq_true] at q
  obtain ⟨a1, a2⟩ := sh_shaped q.1
  obtain ⟨b1, b2⟩ := sh_shaped q.2
  exact ow_t ⟨a1, b1, a2, b2⟩ (by rw [eqP_eqv 60 60 d e q.1 q.2]; exact k)
def eqO : C2 := ⟨fun g => rEqW g.K false, eqF, @fun c g hg d e b R h k => by
  rw [hg.k]
  unfold eqF at h
  split at h
  · cases h; exact ow_s (by rw [← str_beq]; exact k)
  · cases h; exact ow_i (by rw [← int_beq]; exact k)
  · cases h; exact ow_b k
  · cases h; exact ow_e k
  · cases h; exact ow_z k
  · exact eqG_ok h k⟩
def neF (d e : Dv) : Option Bool := match d, e with
  | .str a, .str b => some (!(a == b))
  | .int a, .int b => some (!(a == b))
  | .bl a, .bl b => some (!(a == b))
  | d, e => gO (shD 60 d && shD 60 e) (!eqP d e)
def neO : C2 := ⟨fun g => rEqV g.K true, neF, @fun c g hg d e b R h k => by
  rw [hg.k]
  unfold neF at h
  split at h
  · cases h; exact nv_s (by rw [← str_beq]; exact k)
  · cases h; exact nv_i (by rw [← int_beq]; exact k)
  · cases h; exact nv_bb k
  · obtain ⟨q, rfl⟩ := gO_eq h
    rw [Bool.and_eq_true] at q
    obtain ⟨a1, a2⟩ := sh_shaped q.1
    obtain ⟨b1, b2⟩ := sh_shaped q.2
    exact nv_t ⟨a1, b1, a2, b2⟩ (by rw [eqP_eqv 60 60 d e q.1 q.2]; exact k)⟩
def cmpF (f : Int → Int → Bool) (g : List Nat → List Nat → Bool) (d e : Dv) : Option Bool := match d, e with
  | .int i, .int j => some (f i j)
  | .str a, .str b => some (g a.cps.toList b.cps.toList)
  | _, _ => none
def cmpO (f : Int → Int → Bool) (g : List Nat → List Nat → Bool) : C2 := ⟨fun _ => rCmpU f g, cmpF f g, @fun c _ hg d e b R h k => by
  unfold cmpF at h
  split at h
  · cases h; exact od_cmp k
  · cases h; exact od_cmps k
  · cases h⟩
abbrev ltO : C2 := cmpO (fun i j => decide (i < j)) fun a b => decide (a < b)
abbrev leO : C2 := cmpO (fun i j => decide (i ≤ j)) fun a b => !decide (b < a)
abbrev gtO : C2 := cmpO (fun i j => decide (j < i)) fun a b => decide (b < a)
abbrev geO : C2 := cmpO (fun i j => decide (j ≤ i)) fun a b => !decide (a < b)
def inF (d e : Dv) : Option Bool := match d, e with
  | .str x, .str z => gO (x.cps.toList.length == 1) (hs x z)
  | d, .lst ds => gO (flatD d && ds.all flatD) (ds.any fun e => eqD e d)
  | d, .tup ds => gO (flatD d && ds.all flatD) (ds.any fun e => eqD e d)
  | _, _ => none
def inO : C2 := ⟨fun g => rInU g.K false, inF, @fun c g hg d e b R h k => by
  rw [hg.k]
  unfold inF at h
  split at h
  · obtain ⟨q, rfl⟩ := gO_eq h; exact od_is (by simpa using q) k
  · obtain ⟨q, rfl⟩ := gO_eq h; rw [Bool.and_eq_true] at q; exact oi_l q k
  · obtain ⟨q, rfl⟩ := gO_eq h; rw [Bool.and_eq_true] at q; exact oi_t q k
  · cases h⟩
def ninO : C2 := ⟨fun g => rInU g.K true, fun d e => match inF d e with | some b => some (!b) | none => none, @fun c g hg d e b R h k => by
  rw [hg.k]
  cases q : inF d e with
  | none => rw [q] at h; cases h
  | some b' =>
    rw [q] at h
    cases h
    unfold inF at q
    split at q
    · obtain ⟨q2, rfl⟩ := gO_eq q; exact od_nis (by simpa using q2) k
    · obtain ⟨q2, rfl⟩ := gO_eq q; rw [Bool.and_eq_true] at q2; exact ni_l q2 k
    · obtain ⟨q2, rfl⟩ := gO_eq q; rw [Bool.and_eq_true] at q2; exact ni_t q2 k
    · cases q⟩
/-! ### one operand -/
def notF (d : Dv) : Option Dv := match d with | .bl b => some (.bl (!b)) | _ => none
def notO : O1 := ⟨fun _ => tNotV, notF, @fun c g hg te n env R h => ed_not (ed_mono h fun n1 d ⟨z, h1, h2⟩ => by cases d <;> cases h1; exact h2)⟩
def isN : Dv → Bool
  | .non => true
  | _ => false
def isNO : O1 := ⟨fun _ => tIsN, fun d => some (.bl (isN d)), @fun c g hg te n env R h => ed_isN (ed_mono h fun n1 d ⟨z, h1, h2⟩ => by cases h1; cases d <;> exact h2)⟩
def nisNO : O1 := ⟨fun _ => tNotN, fun d => some (.bl (!isN d)), @fun c g hg te n env R h => ed_notN (ed_mono h fun n1 d ⟨z, h1, h2⟩ => by cases h1; cases d <;> exact h2)⟩
def revF (d : Dv) : Option Dv := match d with
  | .lst ds => some (.lst ds.reverse)
  | .tup ds => some (.tup ds.reverse)
  | .str z => gO (decide (z.length ≤ sizeLine)) (.str (revS z))
  | _ => none
def revO : O1 := ⟨fun g => tRevA g.K, revF, @fun c g hg te n env R h => by
  rw [hg.k]
  refine ed_revA (ed_mono h fun n1 d ⟨z, h1, h2⟩ => ?_)
  unfold revF at h1
  split at h1
  · cases h1; exact rv_lst h2
  · cases h1; exact rv_tup h2
  · obtain ⟨q, rfl⟩ := gO_dec h1; exact rv_str q h2
  · cases h1⟩
/-! ### two operands -/
def dgetO : O2 := ⟨fun _ => tDGet, dgetF, @fun c g hg ta tb n env R h => ed_dget (ed_mono h fun n1 d h1 => ed_mono h1 fun n2 e ⟨z, h2, h3⟩ => by
  obtain ⟨es, k, a, b, r⟩ := dget_ok h2
  exact ⟨es, k, z, a, b, r, h3⟩)⟩
def strsD : Dv → Option (List Str)
  | .lst ds => strsOf ds
  | .tup ds => strsOf ds
  | _ => none
def isS : Dv → Bool
  | .str _ => true
  | _ => false
def joinF (d e : Dv) : Option Dv := match d with
  | .str a => match strsD e with
    | some ys => gO (decide ((ys.map (·.length)).sum + ys.length * a.length ≤ 16777216)) (.str (Txt.join a ys))
    | none => none
  | _ => none
theorem strsD_seq {e : Dv} {ys : List Str} (h : strsD e = some ys) : seqD e = some (ys.map Dv.str) := by
  cases e <;> simp only [strsD] at h <;> try cases h
  · rw [strs_map h]; rfl
  · rw [strs_map h]; rfl
def joinO : M2 := ⟨fun g => tM1 (rJoin g.K), isS, joinF, @fun c g hg ta tb n env R h => by
  rw [hg.k]
  refine ed_join (ed_mono h fun n1 d h1 => ?_)
  obtain ⟨h0, h1⟩ := h1
  cases d <;> simp only [isS] at h0 <;> try cases h0
  refine ⟨_, rfl, ed_mono h1 fun n2 e h2 => ?_⟩
  obtain ⟨z, h2, h3⟩ := h2
  simp only [joinF] at h2
  split at h2
  · obtain ⟨q, rfl⟩ := gO_dec h2
    exact ⟨_, strsD_seq ‹_›, q, h3⟩
  · cases h2⟩
/-! ### calls of built-ins -/
def cbO (r : Gx → List V → Hp → VK → Prop) (f : List Dv → Option Dv) (ok : ∀ {c : Cn} {g : Gx}, GOk c g → ∀ {ds : List Dv} {z : Dv} {R : Dv → Prop}, f ds = some z → R z → CD c (r g) ds R) : ON := ⟨fun g => tCB (r g), f, @fun c g hg ta n env R h => ed_callB (ad_mono h fun n1 ds ⟨z, h1, h2⟩ => ok hg h1 h2)⟩
def tupO : ON := ⟨fun _ => tTup, fun ds => gO (decide (ds.length ≤ sizeLine)) (.tup ds), @fun c g hg ta n env R h => ed_tup (ad_mono h fun n1 ds ⟨z, h1, h2⟩ => by obtain ⟨q, rfl⟩ := gO_dec h1; exact ⟨q, h2⟩)⟩
def lstO : ON := ⟨fun _ => tLst, fun ds => gO (decide (ds.length ≤ sizeLine)) (.lst ds), @fun c g hg ta n env R h => ed_lst (ad_mono h fun n1 ds ⟨z, h1, h2⟩ => by obtain ⟨q, rfl⟩ := gO_dec h1; exact ⟨q, h2⟩)⟩
def lenF (ds : List Dv) : Option Dv := match ds with
  | [d] => match lenD d with
    | some m => some (.int (m : Nat))
    | none => none
  | _ => none
def lenO : ON := cbO (fun g xs H Q => ∃ x n, xs = [x] ∧ LenV g.K x H n ∧ Q (.int n) H) lenF @fun c g hg ds z R h k => by
  rw [hg.k]
  unfold lenF at h
  split at h
  · split at h
    · cases h; exact cd_len ‹_› k
    · cases h
  · cases h
def intF (ds : List Dv) : Option Dv := match ds with | [.int i] => some (.int i) | [.bl b] => some (.int (if b = true then 1 else 0)) | _ => none
theorem cd_intb {c : Cn} {b : Bool} {R : Dv → Prop} (k : R (.int (if b = true then 1 else 0))) : CD c (fun xs H Q => (∃ i, xs = [.int i] ∧ Q (.int i) H) ∨ ∃ k, xs = [.bl k] ∧ Q (.int (if k then 1 else 0)) H) [.bl b] R := fun B H xs lv hx Q q => by
  cases hx with
  | cons h1 h2 =>
    cases h2
    cases h1
    exact .inr ⟨b, rfl, q _ H _ (Same.refl _) (.int _) k⟩
def intO : ON := cbO (fun _ xs H Q => (∃ i, xs = [.int i] ∧ Q (.int i) H) ∨ ∃ k, xs = [.bl k] ∧ Q (.int (if k then 1 else 0)) H) intF @fun c g hg ds z R h k => by
  unfold intF at h
  split at h
  · cases h; exact cd_int k
  · cases h; exact cd_intb k
  · cases h
def strF (ds : List Dv) : Option Dv := match ds with | [.int i] => gO (decide (i.natAbs.log2 < 1920)) (.str (toString i)) | [.bl b] => some (.str (if b = true then "True" else "False")) | [.str x] => some (.str x) | _ => none
def strO : ON := cbO (fun _ => rStrA) strF @fun c g hg ds z R h k => by
  unfold strF at h
  split at h
  · obtain ⟨q, rfl⟩ := gO_dec h; exact cs_i q k
  · cases h; exact cs_b k
  · cases h; exact cs_s k
  · cases h
def listF (ds : List Dv) : Option Dv := match ds with | [.lst es] => some (.lst es) | [.tup es] => some (.lst es) | [.str x] => gO (decide (x.cps.size ≤ sizeLine)) (.lst ((sgs x).map Dv.str)) | _ => none
def listO : ON := cbO (fun g => rListA g.K) listF @fun c g hg ds z R h k => by
  rw [hg.k]
  unfold listF at h
  split at h
  · cases h; exact cd_listL k
  · cases h; exact cd_listT k
  · obtain ⟨q, rfl⟩ := gO_dec h; exact cd_listS q k
  · cases h
def tupleF (ds : List Dv) : Option Dv := match ds with
  | [d] => match seqD d with
    | some es => some (.tup es)
    | none => none
  | _ => none
def tupleO : ON := cbO (fun g => rTupOf g.K) tupleF @fun c g hg ds z R h k => by
  rw [hg.k]
  unfold tupleF at h
  split at h
  · split at h
    · cases h; exact cd_tuple ‹_› k
    · cases h
  · cases h
def intsOf : List Dv → Option (List Int)
  | [] => some []
  | d :: ds => match d with
    | .int i => match intsOf ds with
      | some l => some (i :: l)
      | none => none
    | _ => none
theorem ints_map : ∀ {ds : List Dv} {ns : List Int}, intsOf ds = some ns → ds = ns.map Dv.int
  | [], ns, h => by cases h; rfl
  | d :: ds, ns, h => by
    simp only [intsOf] at h
    split at h
    · split at h
      · rename_i q
        cases h
        rw [ints_map q]; rfl
      · cases h
    · cases h
def blsOf : List Dv → Option (List Bool)
  | [] => some []
  | d :: ds => match d with
    | .bl i => match blsOf ds with
      | some l => some (i :: l)
      | none => none
    | _ => none
theorem bls_map : ∀ {ds : List Dv} {ns : List Bool}, blsOf ds = some ns → ds = ns.map Dv.bl
  | [], ns, h => by cases h; rfl
  | d :: ds, ns, h => by
    simp only [blsOf] at h
    split at h
    · split at h
      · rename_i q
        cases h
        rw [bls_map q]; rfl
      · cases h
    · cases h
def sumF (ds : List Dv) : Option Dv := match ds with
  | [.lst es] => match intsOf es with
    | some ns => some (.int ns.sum)
    | none => none
  | _ => none
def sumO : ON := cbO (fun g => rSum g.K) sumF @fun c g hg ds z R h k => by
  rw [hg.k]
  unfold sumF at h
  split at h
  · split at h
    · rename_i q; cases h; rw [ints_map q]; exact cd_sum k
    · cases h
  · cases h
def allF (ds : List Dv) : Option Dv := match ds with
  | [.lst es] => match blsOf es with
    | some bs => some (.bl (bs.all id))
    | none => none
  | _ => none
def allO : ON := cbO (fun g => rAll g.K) allF @fun c g hg ds z R h k => by
  rw [hg.k]
  unfold allF at h
  split at h
  · split at h
    · rename_i q; cases h; rw [bls_map q]; exact cd_all k
    · cases h
  · cases h
/-- repr: fits -/
def rOk (d : Dv) : Bool := okD d && (decide ((py d).weight ≤ 16000) && decide ((py d).depth ≤ 60))
def reprD (d : Dv) : Str := (py d).shown
theorem rOk_ok {d : Dv} (h : rOk d = true) : Ok 16000 60 d := by
  simp only [rOk, Bool.and_eq_true, decide_eq_true_eq] at h
  exact ⟨h.1, h.2.1, h.2.2⟩
theorem rOk_of {m k : Nat} {d : Dv} (h : Ok m k d) (a : m ≤ 16000) (b : k ≤ 60) : rOk d = true := by
  simp only [rOk, Bool.and_eq_true, decide_eq_true_eq]
  exact ⟨h.ok, Nat.le_trans h.wt a, Nat.le_trans h.dp b⟩
def reprF (ds : List Dv) : Option Dv := match ds with | [d] => gO (rOk d) (.str (reprD d)) | _ => none
def reprO : ON := cbO (fun g => rRepr g.K) reprF @fun c g hg ds z R h k => by
  rw [hg.k]
  unfold reprF at h
  split at h
  · obtain ⟨q, rfl⟩ := gO_eq h; exact cd_reprO (rOk_ok q) (Nat.le_refl _) (Nat.le_refl _) k
  · cases h
def absF (ds : List Dv) : Option Dv := match ds with | [.int i] => some (.int (if i < 0 then -i else i)) | _ => none
def absO : ON := cbO (fun _ xs H Q => ∃ i, xs = [.int i] ∧ Q (.int (if i < 0 then -i else i)) H) absF @fun c g hg ds z R h k => by
  unfold absF at h
  split at h
  · cases h
    intro B H xs lv hx Q q
    cases hx with
    | cons h1 h2 => cases h2; cases h1; exact ⟨_, rfl, q _ H _ (Same.refl _) (.int _) k⟩
  · cases h
def max2F (ds : List Dv) : Option Dv := match ds with | [.int i, .int j] => some (.int (if j > i then j else i)) | _ => none
def max2O : ON := cbO (fun _ xs H Q => ∃ i j, xs = [.int i, .int j] ∧ Q (.int (if j > i then j else i)) H) max2F @fun c g hg ds z R h k => by
  unfold max2F at h
  split at h
  · cases h
    intro B H xs lv hx Q q
    cases hx with
    | cons h1 h2 => cases h2 with | cons h3 h4 => cases h4; cases h1; cases h3; exact ⟨_, _, rfl, q _ H _ (Same.refl _) (.int _) k⟩
  · cases h
def min2F (ds : List Dv) : Option Dv := match ds with | [.int i, .int j] => some (.int (if j < i then j else i)) | _ => none
def min2O : ON := cbO (fun _ xs H Q => ∃ i j, xs = [.int i, .int j] ∧ Q (.int (if j < i then j else i)) H) min2F @fun c g hg ds z R h k => by
  unfold min2F at h
  split at h
  · cases h
    intro B H xs lv hx Q q
    cases hx with
    | cons h1 h2 => cases h2 with | cons h3 h4 => cases h4; cases h1; cases h3; exact ⟨_, _, rfl, q _ H _ (Same.refl _) (.int _) k⟩
  · cases h
/-- isinstance(x, T) -/
def isiF (T : String) (d : Dv) : Option Dv := gO (tyD d).isSome (.bl (isK T d))
def isiO (T : String) (hT : T ∈ ["bool", "int", "str", "tuple", "list", "dict"]) : O1 := ⟨fun g te => tCB (rIsi g.K) (tCons te (tCons (tC (.ty T)) tNil)), isiF T, @fun c g hg te n env R h => by
  rw [hg.k]
  exact ed_is hT (ed_mono h fun n1 d ⟨z, h1, h2⟩ => by obtain ⟨q, rfl⟩ := gO_eq h1; exact ⟨q, h2⟩)⟩
/-! ### calls of defs -/
def callO (F : List Dv → T Dv) : OT := ⟨fun g => tCall (spD g.K g.mg (ctF F)) [] E0, F, @fun c g hg ta n env R h => by rw [hg.eq]; exact ed_call h⟩
def callKO (F : List Dv → T Dv) (gV : List V → List V → List V) (gD : List Dv → List Dv → List Dv)
    (hk : ∀ {wd : Wd} {B : Addr → Prop} {K : PySem.W.Frag} {H : Hp} {vs us : List V} {ds es : List Dv}, DtA wd B K H vs ds → DtA wd B K H us es → DtA wd B K H (gV vs us) (gD ds es)) : OK2 :=
  ⟨fun g => tCallK (spD g.K g.mg (ctF F)) gV E0, fun ds es => F (gD ds es), @fun c g hg ta tb n env R h => by rw [hg.eq]; exact ed_callK hk h⟩
/-! ### what is walked -/
def wlistO : W1 := ⟨fun g => iList g.K, fun d => match d with | .lst ds => some ds | _ => none, @fun c g hg te n env R h => by
  rw [hg.k]
  exact wd_list (ed_mono h fun n1 d ⟨z, h1, h2⟩ => by split at h1 <;> cases h1; exact ⟨_, rfl, h2⟩)⟩
def wtupO : W1 := ⟨fun g => iTup g.K, fun d => match d with | .tup ds => some ds | _ => none, @fun c g hg te n env R h => by
  rw [hg.k]
  exact wd_tup (ed_mono h fun n1 d ⟨z, h1, h2⟩ => by split at h1 <;> cases h1; exact ⟨_, rfl, h2⟩)⟩
def wstrO : W1 := ⟨fun _ => iStr, fun d => match d with | .str x => some (signs x) | _ => none, @fun c g hg te n env R h =>
  wd_str (ed_mono h fun n1 d ⟨z, h1, h2⟩ => by split at h1 <;> cases h1; exact ⟨_, rfl, h2⟩)⟩
def rng1F (ds : List Dv) : Option (List Dv) := match ds with | [.int j] => gO (decide (-(2 ^ 62) ≤ j ∧ j < 2 ^ 62)) (rints 0 j.toNat) | _ => none
def rng1O : WN := ⟨fun _ => iRng1, rng1F, @fun c g hg ta n env R h => wd_range1 (ad_mono h fun n1 ds ⟨z, h1, h2⟩ => by
  unfold rng1F at h1
  split at h1
  · obtain ⟨q, rfl⟩ := gO_dec h1; exact ⟨_, rfl, q.1, q.2, h2⟩
  · cases h1)⟩
def rng2F (ds : List Dv) : Option (List Dv) := match ds with | [.int i, .int j] => gO (decide (-(2 ^ 62) ≤ i ∧ i < 2 ^ 62 ∧ -(2 ^ 62) ≤ j ∧ j < 2 ^ 62)) (rints i (j - i).toNat) | _ => none
def rng2O : WN := ⟨fun _ => iRng2, rng2F, @fun c g hg ta n env R h => wd_range2 (ad_mono h fun n1 ds ⟨z, h1, h2⟩ => by
  unfold rng2F at h1
  split at h1
  · obtain ⟨q, rfl⟩ := gO_dec h1; exact ⟨_, _, rfl, q, h2⟩
  · cases h1)⟩
def enumF (ds : List Dv) : Option (List Dv) := match ds with | [.lst es] => some (nums es) | _ => none
def enumO : WN := ⟨fun g => iEnum g.K, enumF, @fun c g hg ta n env R h => by
  rw [hg.k]
  refine wd_enum (ad_mono h fun n1 ds ⟨z, h1, h2⟩ => ?_)
  unfold enumF at h1
  split at h1
  · cases h1; exact ⟨_, rfl, h2⟩
  · cases h1⟩
/-! ### constants -/
theorem dt_str {x : Str} : ∀ wd B K H, Dt wd B K H (.str x) (.str x) := fun _ _ _ _ => .str x
theorem dt_int {x : Int} : ∀ wd B K H, Dt wd B K H (.int x) (.int x) := fun _ _ _ _ => .int x
theorem dt_bl {x : Bool} : ∀ wd B K H, Dt wd B K H (.bl x) (.bl x) := fun _ _ _ _ => .bl x
theorem dt_non : ∀ wd B K H, Dt wd B K H .non .non := fun _ _ _ _ => .non
abbrev cS (x : Str) : Ex := .con (.str x) (.str x) dt_str
abbrev cI (x : Int) : Ex := .con (.int x) (.int x) dt_int
abbrev cB (x : Bool) : Ex := .con (.bl x) (.bl x) dt_bl
abbrev cN : Ex := .con .non .non dt_non
def dnewO : ON := ⟨fun _ ta σ H Q => ta σ H fun _ H' => tDNewK σ H' Q, fun ds => match ds with | [] => some (.dic []) | _ => none, @fun c g hg ta n env R h => fun B H σ r Q q =>
  h B H σ r _ fun vs H1 n1 ds r1 e1 h1 ⟨z, h2, h3⟩ => by
    split at h2 <;> cases h2
    exact ed_dnew (c := c) (n := n1) (env := env) (R := R) h3 B H1 σ r1 Q fun v H2 n2 d r2 e2 => q v H2 n2 d r2 (e1.trans e2)⟩
end DL

set_option Elab.async false
set_option linter.all false
set_option maxRecDepth 100000
set_option maxHeartbeats 2000000
/-! F4: instances, dicts, enumerate, as data. -/
namespace DL
open PySem PySem.Spec L2
/-! ### instances -/
def fldF (f : Str) (d : Dv) : Option Dv := match d with
  | .ins cn es => match decide (f ∈ flds cn) with
    | true => es.lookup f
    | false => none
  | _ => none
def fldO (f : Str) : O1 := ⟨fun g te => tFld g.K te f, fldF f, @fun c g hg te n env R h => by
  rw [hg.k]
  refine ed_fld (ed_mono h fun n1 d ⟨z, h1, h2⟩ => ?_)
  unfold fldF at h1
  split at h1
  · split at h1
    · rename_i q
      exact ⟨_, _, z, rfl, of_decide_eq_true q, h1, h2⟩
    · cases h1
  · cases h1⟩
def ownI (env : DL.Env) (i : Nat) : Option (Str × List (Str × Dv)) := match getE env i with
  | some (.own (.ins cn es)) => some (cn, es)
  | _ => none
theorem ownI_at {env : DL.Env} {i : Nat} {cn : Str} {es : List (Str × Dv)} (h : ownI env i = some (cn, es)) : env[i]? = some (some (.own (.ins cn es))) := by
  unfold ownI at h
  split at h
  · rename_i q
    cases h
    exact getE_at q
  · cases h
/-- self.f, self being made -/
def ofldE (i : Nat) (f : Str) : Ex := .p0 (fun g => tFld g.K (tVar i) f) (fun env => (T.ofO (ownI env i)).bind fun p => T.ofO (fldF f (.ins p.1 p.2))) @fun c g hg n env R h => by
  obtain ⟨⟨cn, es⟩, h1, h2⟩ := T.wp_ofO.mp ((T.wp_bind _ _ _).mp h)
  obtain ⟨z, h3, h4⟩ := T.wp_ofO.mp h2
  simp only [fldF] at h3
  rw [hg.k]
  split at h3
  · rename_i q
    exact ed_ofld (ownI_at h1) (of_decide_eq_true q) h3 h4
  · cases h3
/-- self.f = e -/
def fsetS (i : Nat) (f : Str) (e : Ex) : Sm := .s0 (fun g => sFld g.K (tVar i) (rdE g e) f) (fun env => (T.ofO (ownI env i)).bind fun p => T.grd (decide (f ∈ flds p.1) && decide (p.2.length < 1000)) ((evE e env).bind fun d => .ret (.nx (setE env i (some (.own (.ins p.1 (putFD f d p.2)))))))) @fun c g hg n env N h => by
  obtain ⟨⟨cn, es⟩, h1, h2⟩ := T.wp_ofO.mp ((T.wp_bind _ _ _).mp h)
  obtain ⟨h3, h4⟩ := T.wp_grd.mp h2
  rw [Bool.and_eq_true] at h3
  rw [hg.k]
  exact sd_fset (ownI_at h1) (of_decide_eq_true h3.1) (of_decide_eq_true h3.2) (ed_mono (soE hg e n env _ ((T.wp_bind _ _ _).mp h4)) fun n1 d z => by rw [← setE_eq]; exact z)
/-- C(..) -/
def mkO (cn : Str) (F : List Dv → T Dv) : OT := ⟨fun g => tMakeD g.K g.mg cn (ctF F), F, @fun c g hg ta n env R h => by rw [hg.eq]; exact ed_make h⟩
/-- o.m(..) -/
def methF (cn m : Str) (d : Dv) : Bool := match d with
  | .ins cn' es => decide (cn' = cn) && (es.lookup m).isNone
  | _ => false
theorem methF_eq {cn m : Str} {d : Dv} (h : methF cn m d = true) : ∃ es, d = .ins cn es ∧ es.lookup m = none := by
  cases d <;> simp only [methF] at h <;> try cases h
  rw [Bool.and_eq_true] at h
  cases of_decide_eq_true h.1
  exact ⟨_, rfl, Option.isNone_iff_eq_none.mp h.2⟩
def methE (cn m : Str) (F : List Dv → T Dv) (a : Ex) (as : Ar) : Ex := .p0 (fun g => tMethD g.mg cn m (spD g.K g.mg (ctF F)) (rdE g a) (rdA g as))
  (fun env => (evE a env).bind fun d => T.grd (methF cn m d) ((evA as env).bind fun ds => F (d :: ds))) @fun c g hg n env R h => by
  have h1 := soE hg a n env _ ((T.wp_bind _ _ _).mp h)
  rw [show g.mg = c.wd.cm from hg.m, show g.K = c.K from hg.k]
  refine ed_meth (ed_mono h1 fun n1 d h2 => ?_)
  obtain ⟨h3, h4⟩ := T.wp_grd.mp h2
  obtain ⟨es, h5, h6⟩ := methF_eq h3
  exact ⟨es, h5, h6, soA hg as n1 env _ ((T.wp_bind _ _ _).mp h4)⟩
/-- o == u, both of one class -/
def insP (cn : Str) (d : Dv) : Bool := match d with
  | .ins cn' _ => decide (cn' = cn)
  | _ => false
theorem insP_eq {cn : Str} {d : Dv} (h : insP cn d = true) : ∃ es, d = .ins cn es := by
  cases d <;> simp only [insP] at h <;> try cases h
  cases of_decide_eq_true h
  exact ⟨_, rfl⟩
def eqiE (cn : Str) (F : List Dv → T Dv) (a b : Ex) : Ex := .p0 (fun g => tOp (rEqD g.mg cn (spD g.K g.mg (ctF F))) (rdE g a) (rdE g b))
  (fun env => (evE a env).bind fun d => (evE b env).bind fun e => T.grd (insP cn d && insP cn e) ((F [d, e]).bind fun z => (T.ofO (isB z)).bind fun x => .ret (.bl x))) @fun c g hg n env R h => by
  have h1 := soE hg a n env _ ((T.wp_bind _ _ _).mp h)
  rw [show g.mg = c.wd.cm from hg.m, show g.K = c.K from hg.k]
  refine ed_eqI (ed_mono h1 fun n1 d h2 => ed_mono (soE hg b n1 env _ ((T.wp_bind _ _ _).mp h2)) fun n2 e h3 => ?_)
  obtain ⟨h4, h5⟩ := T.wp_grd.mp h3
  rw [Bool.and_eq_true] at h4
  obtain ⟨es, rfl⟩ := insP_eq h4.1
  obtain ⟨es', rfl⟩ := insP_eq h4.2
  refine ⟨es, es', rfl, rfl, T.wp_mono (fun n z w => ?_) (fun _ _ z => z) _ _ ((T.wp_bind _ _ _).mp h5)⟩
  obtain ⟨x, hx, h6⟩ := T.wp_ofO.mp ((T.wp_bind _ _ _).mp w)
  exact ⟨x, isB_eq hx, h6⟩
/-- isinstance(x, C) -/
def isCO (cn : Str) : O1 := ⟨fun g => tIsC g.K g.mg cn, fun d => blO (isCF cn d), @fun c g hg te n env R h => by
  rw [hg.eq]
  refine ed_isC (ed_mono h fun n1 d ⟨z, h1, h2⟩ => ?_)
  obtain ⟨b, h3, rfl⟩ := blO_eq h1
  exact ⟨b, h3, h2⟩⟩
/-! ### dicts of the top -/
def kgetF (tab : List (Str × V)) (d : Dv) : Option Dv := match d with
  | .str z => match tab.lookup z with
    | some v => flatOf v
    | none => none
  | _ => none
def kgetO (tab : List (Str × V)) : O1 := ⟨fun _ => tKGet tab, kgetF tab, @fun c g hg te n env R h => ed_kget (ed_mono h fun n1 d ⟨z, h1, h2⟩ => by
  unfold kgetF at h1
  split at h1
  · split at h1
    · exact ⟨_, _, z, rfl, ‹_›, h1, h2⟩
    · cases h1
  · cases h1)⟩
def kinF (tab : List (Str × V)) (d : Dv) : Option Dv := match d with
  | .str z => some (.bl (tab.lookup z).isSome)
  | _ => none
def tKIn1 (mg : Str → Option Value) (x : Str) (tab : List (Str × V)) (te : TE) : TE := fun σ H Q => ∀ d, mg x = some (.ref d) → tOp (fun x y H Q => ∃ z, x = .str z ∧ y = .ref d ∧ Q (.bl (tab.lookup z).isSome) H) te (tC (.ref d)) σ H Q
def tKNin1 (mg : Str → Option Value) (x : Str) (tab : List (Str × V)) (te : TE) : TE := fun σ H Q => ∀ d, mg x = some (.ref d) → tOp (fun x y H Q => ∃ z, x = .str z ∧ y = .ref d ∧ Q (.bl (!(tab.lookup z).isSome)) H) te (tC (.ref d)) σ H Q
theorem pe_kin1 {X : Cx} {e : Expr} {te : TE} {x : Str} {tab : List (Str × V)} {d : Addr} (hd : X.mg x = some (.ref d)) (h : PE X e (tOp (fun x y H Q => ∃ z, x = .str z ∧ y = .ref d ∧ Q (.bl (tab.lookup z).isSome) H) te (tC (.ref d)))) : PE X e (tKIn1 X.mg x tab te) := PE.imp h fun σ H Q z => z d hd
theorem pe_knin1 {X : Cx} {e : Expr} {te : TE} {x : Str} {tab : List (Str × V)} {d : Addr} (hd : X.mg x = some (.ref d)) (h : PE X e (tOp (fun x y H Q => ∃ z, x = .str z ∧ y = .ref d ∧ Q (.bl (!(tab.lookup z).isSome)) H) te (tC (.ref d)))) : PE X e (tKNin1 X.mg x tab te) := PE.imp h fun σ H Q z => z d hd
def kinO (x : Str) (tab : List (Str × V)) : O1 := ⟨fun g => tKIn1 g.mg x tab, kinF tab, @fun c g hg te n env R h => fun B H σ r Q q d hd => ed_kin (c := c) (n := n) (env := env) (R := R) (d := d) (tab := tab) (ed_mono h fun n1 y ⟨z, h1, h2⟩ => by
  unfold kinF at h1
  split at h1 <;> cases h1
  exact ⟨_, rfl, h2⟩) B H σ r Q q⟩
def knotF (tab : List (Str × V)) (d : Dv) : Option Dv := match d with
  | .str z => some (.bl (!(tab.lookup z).isSome))
  | _ => none
def kninO (x : Str) (tab : List (Str × V)) : O1 := ⟨fun g => tKNin1 g.mg x tab, knotF tab, @fun c g hg te n env R h => fun B H σ r Q q d hd => ed_knin (c := c) (n := n) (env := env) (R := R) (d := d) (tab := tab) (ed_mono h fun n1 y ⟨z, h1, h2⟩ => by
  unfold knotF at h1
  split at h1 <;> cases h1
  exact ⟨_, rfl, h2⟩) B H σ r Q q⟩
/-! ### dicts -/
def getVF (d k : Dv) : Option Dv := match lkV d k with
  | some (some w) => some w
  | _ => none
theorem getVF_eq {d k w : Dv} (h : getVF d k = some w) : lkV d k = some (some w) := by
  unfold getVF at h
  split at h
  · cases h; assumption
  · cases h
def getVO : O2 := ⟨fun _ => tDGet, getVF, @fun c g hg ta tb n env R h => ed_dgetV (ed_mono h fun n1 d h1 => ed_mono h1 fun n2 e ⟨z, h2, h3⟩ => ⟨z, getVF_eq h2, h3⟩)⟩
/-- k in d -/
def hasO : O2 := ⟨fun _ => tDIn, fun k d => blO (hasKey d k), @fun c g hg ta tb n env R h => ed_din (ed_mono h fun n1 d h1 => ed_mono h1 fun n2 e ⟨z, h2, h3⟩ => by
  obtain ⟨b, h4, rfl⟩ := blO_eq h2
  exact ⟨b, h4, h3⟩)⟩
def hasNO : O2 := ⟨fun _ => tDNotIn, fun k d => blO ((hasKey d k).map (!·)), @fun c g hg ta tb n env R h => ed_dnin (ed_mono h fun n1 d h1 => ed_mono h1 fun n2 e ⟨z, h2, h3⟩ => by
  obtain ⟨b, h4, rfl⟩ := blO_eq h2
  cases q : hasKey e d with
  | none => rw [q] at h4; cases h4
  | some b' => rw [q] at h4; cases h4; exact ⟨b', rfl, h3⟩)⟩
def ownT (env : DL.Env) (i : Nat) : Option (List (List Key × Dv)) := match getE env i with
  | some (.own (.dct ds)) => some ds
  | _ => none
theorem ownT_at {env : DL.Env} {i : Nat} {ds : List (List Key × Dv)} (h : ownT env i = some ds) : env[i]? = some (some (.own (.dct ds))) := by
  unfold ownT at h
  split at h
  · rename_i q
    cases h
    exact getE_at q
  · cases h
/-- x[e], x own, by tuples -/
def ogetTE (i : Nat) (a : Ex) : Ex := .p0 (fun g => tDGet (tVar i) (rdE g a)) (fun env => match getE env i with
    | some (.own (.dct es)) => (evE a env).bind fun x => (T.ofO (keyT x)).bind fun k => T.ofO (lkL es k)
    | some (.fz d) => (evE a env).bind fun x => T.ofO (getVF d x)
    | _ => .fail) @fun c g hg n env R h => by
  split at h
  · rename_i es ho
    exact ed_ogetT (getE_at ho) (ed_mono (soE hg a n env _ ((T.wp_bind _ _ _).mp h)) fun n1 e h3 => by
      obtain ⟨k, h4, h5⟩ := T.wp_ofO.mp ((T.wp_bind _ _ _).mp h3)
      obtain ⟨w, h6, h7⟩ := T.wp_ofO.mp h5
      exact ⟨k, w, h4, h6, h7⟩)
  · rename_i d ho
    exact ed_dgetV (ed_var (getE_at ho) (ed_mono (soE hg a n env _ ((T.wp_bind _ _ _).mp h)) fun n1 e h3 => by
      obtain ⟨w, h6, h7⟩ := T.wp_ofO.mp h3
      exact ⟨w, getVF_eq h6, h7⟩))
  · exact h.elim
def ownO (env : DL.Env) (i : Nat) : Option Ob := match getE env i with
  | some (.own o) => some o
  | _ => none
theorem ownO_at {env : DL.Env} {i : Nat} {o : Ob} (h : ownO env i = some o) : env[i]? = some (some (.own o)) := by
  unfold ownO at h
  split at h
  · rename_i q
    cases h
    exact getE_at q
  · cases h
/-- e in x, x own -/
def ohasE (i : Nat) (a : Ex) : Ex := .p0 (fun g => tDIn (rdE g a) (tVar i)) (fun env => match getE env i with
    | some (.own o) => (evE a env).bind fun x => (T.ofO (hasKey (obD o) x)).bind fun b => .ret (.bl b)
    | some (.fz d) => (evE a env).bind fun x => (T.ofO (hasKey d x)).bind fun b => .ret (.bl b)
    | _ => .fail) @fun c g hg n env R h => by
  split at h
  · rename_i o ho
    exact ed_odin (getE_at ho) (ed_mono (soE hg a n env _ ((T.wp_bind _ _ _).mp h)) fun n1 e h3 => T.wp_ofO.mp ((T.wp_bind _ _ _).mp h3))
  · rename_i d ho
    exact ed_din (ed_mono (soE hg a n env _ ((T.wp_bind _ _ _).mp h)) fun n1 e h3 => ed_var (getE_at ho) (T.wp_ofO.mp ((T.wp_bind _ _ _).mp h3)))
  · exact h.elim
def ohasNE (i : Nat) (a : Ex) : Ex := .p0 (fun g => tDNotIn (rdE g a) (tVar i)) (fun env => match getE env i with
    | some (.own o) => (evE a env).bind fun x => (T.ofO (hasKey (obD o) x)).bind fun b => .ret (.bl (!b))
    | some (.fz d) => (evE a env).bind fun x => (T.ofO (hasKey d x)).bind fun b => .ret (.bl (!b))
    | _ => .fail) @fun c g hg n env R h => by
  split at h
  · rename_i o ho
    exact ed_odnin (getE_at ho) (ed_mono (soE hg a n env _ ((T.wp_bind _ _ _).mp h)) fun n1 e h3 => T.wp_ofO.mp ((T.wp_bind _ _ _).mp h3))
  · rename_i d ho
    exact ed_dnin (ed_mono (soE hg a n env _ ((T.wp_bind _ _ _).mp h)) fun n1 e h3 => ed_var (getE_at ho) (T.wp_ofO.mp ((T.wp_bind _ _ _).mp h3)))
  · exact h.elim
/-- x = {}, by tuples; x[k] = e -/
def newTS (i : Nat) : Sm := .s0 (fun _ => tAsg tDNewT (gName i)) (fun env => .ret (.nx (setE env i (some (.own (.dct [])))))) @fun c g hg n env N h => sd_newT (by rw [← setE_eq]; exact h)
def oputTS (i : Nat) (ti e : Ex) : Sm := .s0 (fun g => sDPut (tVar i) (rdE g ti) (rdE g e)) (fun env => (T.ofO (ownT env i)).bind fun es => (evE e env).bind fun d => (evE ti env).bind fun x => (T.ofO (keyT x)).bind fun k => T.grd (decide (es.length < sizeLine)) (.ret (.nx (setE env i (some (.own (.dct (putL es k d)))))))) @fun c g hg n env N h => by
  obtain ⟨ds, h1, h2⟩ := T.wp_ofO.mp ((T.wp_bind _ _ _).mp h)
  exact sd_oputT (ownT_at h1) (ed_mono (soE hg e n env _ ((T.wp_bind _ _ _).mp h2)) fun n d z => ed_mono (soE hg ti n env _ ((T.wp_bind _ _ _).mp z)) fun n x y => by
    obtain ⟨k, h3, h4⟩ := T.wp_ofO.mp ((T.wp_bind _ _ _).mp y)
    exact ⟨k, h3, of_decide_eq_true (T.wp_grd.mp h4).1, by rw [← setE_eq]; exact (T.wp_grd.mp h4).2⟩)
/-- a statement that is never reached -/
def neverS : Sm := .s0 (fun _ => tNever) (fun _ => .fail) @fun c g hg n env N h => h.elim
def enumAO : WN := ⟨fun g => iEnumA g.K, enumD, @fun c g hg ta n env R h => by rw [hg.k]; exact wd_enumA h⟩
def wanyO : W1 := ⟨fun g => iAny g.K, itemsD, @fun c g hg te n env R h => by rw [hg.k]; exact wd_any h⟩
/-! ### an __init__ -/
def outI (cn : Str) : Out → T Dv
  | .nx e => match getE e 0 with
    | some (.own (.ins cn' es)) => T.grd (decide (cn' = cn)) (.ret (.ins cn es))
    | _ => .fail
  | _ => .fail
/-- p parameters besides self, k locals -/
def runI (cn : Str) (p k : Nat) (q : Sm) (ds : List Dv) : T Dv := T.grd (ds.length == p) ((evS q (some (.own (.ins cn [])) :: envS (k - 1) ds)).bind (outI cn))
theorem fnIF {P : Program} {w : World} {K : PySem.W.Frag} {mg : Str → Option Value} {base : Heap} {k : Nat} {f : Addr} {fd : FuncData} {ps : List Str} {x qual cn : Str} {st : Stmt} {NN : List Str} {q : Sm} {p l : Nat}
    (F : Fun K x qual st f fd) (S : FnScope NN ps (defScope st)) (hp : ps.length = p + 1) (hl : NN.length = l)
    (hb : ∀ (cdv : Value) (A : Around) (outer : List PySem.Env) (s : Shared) (H : Hp) (E : XK), A.guards = some [] →
      Room k (A.deeper (PyProof.Rows.envOfC qual (defScope st) s.heap.objs.size f cdv)) →
      PSs (cxOf CX0 P w K mg base NN qual (defScope st) f cdv A outer s H E).nox (defBody st) (rdS ⟨K, mg⟩ q)) :
    FnG P w K mg base CX0 (k + 1) f fd ps (spI K mg cn (ctF (runI cn p l q))) := by
  refine fnI F S (fun n ds R h => ?_) fun cdv A outer s H E hg hr => ⟨_, hb cdv A outer s H E hg hr, fun n ds R hC c hK hM => ?_⟩
  · have := (T.wp_grd.mp h).1
    rw [hp]
    simpa using this
  · obtain ⟨h1, h2⟩ := T.wp_grd.mp hC
    rw [hl, ← envS_eq]
    refine soS ⟨hK.symm, hM.symm⟩ q n _ _ (T.wp_mono (fun n o z => ?_) (fun _ _ z => z) _ _ ((T.wp_bind _ _ _).mp h2))
    cases o with
    | nx e =>
      simp only [outI] at z
      split at z
      · rename_i cn' es he
        obtain ⟨q1, q2⟩ := T.wp_grd.mp z
        cases of_decide_eq_true q1
        exact ⟨es, getE_at he, q2⟩
      · exact z.elim
    | rt d => exact z.elim
    | bk e => exact z.elim
    | ct e => exact z.elim
end DL

set_option Elab.async false
set_option linter.all false
set_option maxRecDepth 100000
set_option maxHeartbeats 2000000
/-! F5: sorted, as a function. -/
namespace DL
open PySem PySem.Spec L2
/-- a text is not behind another one -/
def leS (a b : Str) : Bool := !ltCps b.cps.toList a.cps.toList
theorem lt_cps (a b : Str) : ltCps a.cps.toList b.cps.toList = decide (a.cps.toList < b.cps.toList) := PyProof.Rows.ltCps_eq _ _
theorem leS_iff {a b : Str} : leS a b = true ↔ ¬ b.cps.toList < a.cps.toList := by unfold leS; rw [lt_cps]; simp
theorem leS_anti {a b : Str} (h : leS a b = true) (k : leS b a = true) : a = b := by
  have e : a.cps.toList = b.cps.toList := List.le_antisymm (leS_iff.mp h) (leS_iff.mp k)
  obtain ⟨⟨a⟩⟩ := a
  obtain ⟨⟨b⟩⟩ := b
  exact congrArg (fun l => Str.mk (Array.mk l)) e
theorem leS_trans {a b d : Str} (h : leS a b = true) (k : leS b d = true) : leS a d = true := leS_iff.mpr (List.le_trans (leS_iff.mp h) (leS_iff.mp k))
theorem leS_total (a b : Str) : leS a b = true ∨ leS b a = true := by
  rw [leS_iff, leS_iff]
  exact List.le_total a.cps.toList b.cps.toList
def insS (x : Str) : List Str → List Str
  | [] => [x]
  | y :: r => match leS x y with
    | true => x :: y :: r
    | false => y :: insS x r
def sortS : List Str → List Str
  | [] => []
  | x :: r => insS x (sortS r)
theorem insS_perm (x : Str) : ∀ l : List Str, (insS x l).Perm (x :: l)
  | [] => .refl _
  | y :: r => by
    unfold insS
    split
    · exact .refl _
    · exact ((insS_perm x r).cons y).trans (.swap x y r)
theorem sortS_perm : ∀ l : List Str, (sortS l).Perm l
  | [] => .refl _
  | x :: r => (insS_perm x _).trans ((sortS_perm r).cons x)
theorem insS_rises (x : Str) : ∀ l : List Str, l.Pairwise (fun a b => leS a b = true) → (insS x l).Pairwise (fun a b => leS a b = true)
  | [], _ => List.pairwise_singleton _ _
  | y :: r, h => by
    unfold insS
    obtain ⟨h1, h2⟩ := List.pairwise_cons.mp h
    split
    · rename_i q
      refine List.pairwise_cons.mpr ⟨fun z hz => ?_, h⟩
      rcases List.mem_cons.mp hz with rfl | hz
      · exact q
      · exact leS_trans q (h1 z hz)
    · rename_i q
      refine List.pairwise_cons.mpr ⟨fun z hz => ?_, insS_rises x r h2⟩
      rcases List.mem_cons.mp ((insS_perm x r).mem_iff.mp hz) with rfl | hz
      · rcases leS_total z y with k | k
        · rw [k] at q; cases q
        · exact k
      · exact h1 z hz
theorem sortS_rises : ∀ l : List Str, (sortS l).Pairwise (fun a b => leS a b = true)
  | [] => .nil
  | x :: r => insS_rises x _ (sortS_rises r)
theorem rising_pair : ∀ (p : Str) (l : List Str), PyProof.Rows.risingS p l = true → (p :: l).Pairwise (fun a b => leS a b = true)
  | p, [], _ => List.pairwise_singleton _ _
  | p, x :: r, h => by
    simp only [PyProof.Rows.risingS, Bool.and_eq_true] at h
    have ih := rising_pair x r h.2
    refine List.pairwise_cons.mpr ⟨fun z hz => ?_, ih⟩
    rcases List.mem_cons.mp hz with rfl | hz
    · exact h.1
    · exact leS_trans h.1 ((List.pairwise_cons.mp ih).1 z hz)
theorem sorted_pair {l : List Str} (h : PyProof.Rows.sortedS l = true) : l.Pairwise (fun a b => leS a b = true) := by
  cases l with
  | nil => exact .nil
  | cons x r => exact rising_pair x r h
theorem eq_sortS {l m : List Str} (hp : l.Perm m) (hs : l.Pairwise (fun a b => leS a b = true)) : l = sortS m :=
  List.Perm.eq_of_pairwise (fun _ _ _ _ a b => leS_anti a b) hs (sortS_rises m) (hp.trans (sortS_perm m).symm)
theorem sortS_eq {l m : List Str} (hp : l.Perm m) : sortS l = sortS m := eq_sortS ((sortS_perm l).trans hp) (sortS_rises l)
def sortedSF (ds : List Dv) : Option Dv := match ds with
  | [.lst es] => match strsOf es with
    | some ss => gO (decide (ss.length < 64)) (.lst ((sortS ss).map Dv.str))
    | none => none
  | _ => none
def sortedSO : ON := cbO (fun g => rSortedS g.K) sortedSF @fun c g hg ds z R h k => by
  rw [hg.k]
  unfold sortedSF at h
  split at h
  · split at h
    · rename_i q
      obtain ⟨h1, rfl⟩ := gO_dec h
      rw [strs_map q]
      exact cd_sortedS h1 fun ys hp hs => by rw [eq_sortS hp (sorted_pair hs)]; exact k
    · cases h
  · cases h
/-- sorted(set(text)) -/
def sortSetF (d : Dv) : Option Dv := match d with
  | .str x => gO (decide (x.cps.size ≤ 1000)) (.lst ((sortS (met [] (sgs x))).map Dv.str))
  | _ => none
def sortSetO : O1 := ⟨fun _ => tSortSet, sortSetF, @fun c g hg te n env R h => ed_sortSet (ed_mono h fun n1 d ⟨z, h1, h2⟩ => by
  unfold sortSetF at h1
  split at h1
  · obtain ⟨q, rfl⟩ := gO_dec h1
    exact ⟨_, rfl, q, fun ys hp hs => by rw [eq_sortS hp (sorted_pair hs)]; exact h2⟩
  · cases h1)⟩
/-- tests -/
theorem pt_kin1 {X : Cx} {e : Expr} {te : TE} {x : Str} {tab : List (Str × V)} {d : Addr} (hd : X.mg x = some (.ref d)) (h : PT X e (tTest (tOp (fun x y H Q => ∃ z, x = .str z ∧ y = .ref d ∧ Q (.bl (tab.lookup z).isSome) H) te (tC (.ref d))))) : PT X e (tTest (tKIn1 X.mg x tab te)) := ⟨fun pins s σ H Q I z => h.run pins s σ H Q I (z d hd)⟩
theorem pt_knin1 {X : Cx} {e : Expr} {te : TE} {x : Str} {tab : List (Str × V)} {d : Addr} (hd : X.mg x = some (.ref d)) (h : PT X e (tTest (tOp (fun x y H Q => ∃ z, x = .str z ∧ y = .ref d ∧ Q (.bl (!(tab.lookup z).isSome)) H) te (tC (.ref d))))) : PT X e (tTest (tKNin1 X.mg x tab te)) := ⟨fun pins s σ H Q I z => h.run pins s σ H Q I (z d hd)⟩
theorem pt_isC {X : Cx} {cn : Str} {e : Expr} {ta : TE} {C : Addr} (hC : X.mg cn = some (.ref C)) (hI : IsiC X.K C) (h : PT X e (tB (tCB (rIsi X.K) (tCons ta (tCons (tC (.ref C)) tNil))))) : PT X e (tB (tIsC X.K X.mg cn ta)) := ⟨fun pins s σ H Q I z => h.run pins s σ H Q I (z C hC hI)⟩
theorem pt_mkD {X : Cx} {e : Expr} {C : Addr} {cn : Str} {t : TA} {Cc : Ct} (hC : X.mg cn = some (.ref C)) (hK : ClsOk X.K C cn) (h : PT X e (tB (tMake C (spI X.K X.mg cn Cc) [] E0 t))) : PT X e (tB (tMakeD X.K X.mg cn Cc t)) := ⟨fun pins s σ H Q I z => h.run pins s σ H Q I (z C hC hK)⟩
theorem pt_mtD {X : Cx} {e : Expr} {C : Addr} {cn m : Str} {ta : TE} {t : TA} {sp : Sp} (hC : X.mg cn = some (.ref C)) (h : PT X e (tB (tMeth C m sp [] E0 ta t))) : PT X e (tB (tMethD X.mg cn m sp ta t)) := ⟨fun pins s σ H Q I z => h.run pins s σ H Q I (z C hC)⟩
end DL

set_option Elab.async false
set_option linter.all false
set_option maxRecDepth 100000
set_option maxHeartbeats 2000000
/-! F6: parallel stores of own objects; classes by name; keywords. -/
namespace DL
open PySem PySem.Spec L2
inductive Pi
  | ex (e : Ex) | nl | nd | nt
def rdI (g : Gx) : Pi → TE
  | .ex e => rdE g e
  | .nl => tLst tNil
  | .nd => tDNewK
  | .nt => tDNewT
def rdIs (g : Gx) : List Pi → TA
  | [] => tNil
  | p :: ps => tCons (rdI g p) (rdIs g ps)
def evI : Pi → DL.Env → T Dx
  | .ex e, env => (evE e env).bind fun d => .ret (.fz d)
  | .nl, _ => .ret (.own (.lst []))
  | .nd, _ => .ret (.own (.dic []))
  | .nt, _ => .ret (.own (.dct []))
def evIs : List Pi → DL.Env → T (List Dx)
  | [], _ => .ret []
  | p :: ps, env => (evI p env).bind fun x => (evIs ps env).bind fun xs => .ret (x :: xs)
theorem soIs {c : Cn} {g : Gx} (hg : GOk c g) : ∀ (ps : List Pi) (n : Nat) (env : DL.Env) (R : Nat → List Dx → Prop), (evIs ps env).wp n R noX → PX c (rdIs g ps) n env R
  | [], n, env, R, h => px_nil h
  | .ex e :: ps, n, env, R, h => px_cons (ed_mono (soE hg e n env _ ((T.wp_bind _ _ _).mp ((T.wp_bind _ _ _).mp h))) fun n1 d h1 => soIs hg ps n1 env _ ((T.wp_bind _ _ _).mp h1))
  | .nl :: ps, n, env, R, h => px_newL (soIs hg ps n env _ ((T.wp_bind _ (evIs ps env) _).mp h))
  | .nd :: ps, n, env, R, h => px_newD (soIs hg ps n env _ ((T.wp_bind _ (evIs ps env) _).mp h))
  | .nt :: ps, n, env, R, h => px_newT (soIs hg ps n env _ ((T.wp_bind _ (evIs ps env) _).mp h))
def parS (i j : Nat) (ps : List Pi) : Sm := .s0 (fun g => tPar i j (rdIs g ps)) (fun env => (evIs ps env).bind fun xs => match xs with
    | [x, y] => .ret (.nx (setE (setE env i (some x)) j (some y)))
    | _ => .fail) @fun c g hg n env N h => sd_parX (fun B H σ r Q q => soIs hg ps n env _ ((T.wp_bind _ _ _).mp h) B H σ r Q fun vs H' n' xs B' a1 a2 a3 a4 a5 z => q vs H' n' xs B' a1 a2 a3 a4 a5 (by
      split at z
      · exact ⟨_, _, rfl, by rw [← setE_eq, ← setE_eq]; exact z⟩
      · exact z.elim))
def par3S (i j m : Nat) (ps : List Pi) : Sm := .s0 (fun g => tPar3 i j m (rdIs g ps)) (fun env => (evIs ps env).bind fun xs => match xs with
    | [x, y, z] => .ret (.nx (setE (setE (setE env i (some x)) j (some y)) m (some z)))
    | _ => .fail) @fun c g hg n env N h => sd_par3X (fun B H σ r Q q => soIs hg ps n env _ ((T.wp_bind _ _ _).mp h) B H σ r Q fun vs H' n' xs B' a1 a2 a3 a4 a5 z => q vs H' n' xs B' a1 a2 a3 a4 a5 (by
      split at z
      · exact ⟨_, _, _, rfl, by rw [← setE_eq, ← setE_eq, ← setE_eq]; exact z⟩
      · exact z.elim))
/-! ### classes and methods of the text -/
structure Ci (P : Program) (w : World) (K : PySem.W.Frag) (mg : Str → Option Value) (base : Heap) (k : Nat) (cn : Str) (ps : List Str) (F : List Dv → T Dv) (C f : Addr) (fd : FuncData) : Prop where
  m : mg cn = some (.ref C)
  ok : ClsOk K C cn
  mkr : Mk K C f
  b : Binds K fd ps []
  g : FnG P w K mg base CX0 k f fd ps (spI K mg cn (ctF F))
structure Mi (P : Program) (w : World) (K : PySem.W.Frag) (mg : Str → Option Value) (base : Heap) (k : Nat) (cn mn : Str) (ps : List Str) (F : List Dv → T Dv) (C f : Addr) (fd : FuncData) : Prop where
  m : mg cn = some (.ref C)
  c : Cls K C
  me : Meth K C mn f
  b : Binds K fd ps []
  g : FnG P w K mg base CX0 k f fd ps (spD K mg (ctF F))
section
variable {X : Cx} {k : Nat} {cn mn : Str} {ps : List Str} {F : List Dv → T Dv} {C f : Addr} {fd : FuncData} {p pos apos : Pos} {e o : Expr} {es : List Expr} {ta : TE} {t : TA}
theorem pe_new (D : Ci X.prog X.w X.K X.mg X.base k cn ps F C f fd) (hgd : X.A.guards = some []) (hr : Room (k + 1) X.A) (hg : Gl X cn) (ha : PA X (e :: es) t)
    (hdb : (cn == ("__debug__" : Str)) = false := by decide) (he : starEach (e :: es) X.env = (false, eval e X.env) :: starEach es X.env := by rfl) (hpl : (backTo pos (starEach es X.env)).any (·.1) = false := by rfl) :
    PE X (.Call (.Name cn p) (e :: es) [] pos) (tMakeD X.K X.mg cn (ctF F) t) := pe_mkD D.m D.ok (pe_makeG D.mkr D.g hgd hr hg D.m D.b pass0 ha hdb he hpl)
theorem pe_callM {pl : Sem Bool} (D : Mi X.prog X.w X.K X.mg X.base k cn mn ps F C f fd) (hgd : X.A.guards = some []) (hr : Room k X.A) (he : PE X o ta) (ha : PA X (e :: es) t)
    (hst : starEach (e :: es) X.env = (false, eval e X.env) :: starEach es X.env := by rfl) (hpl : (backTo pos (starEach es X.env)).any (·.1) = false := by rfl)
    (ht : eval (.Call (.Attribute o mn apos) (e :: es) [] pos) X.env = (do
      let ov ← eval o X.env
      standAt apos.atName
      let (f, first) ← holding [ov] (getMethod ov mn pl)
      callWith pos f first (backTo pos (starEach (e :: es) X.env)) (backToKw pos (keywordEach [] X.env))) := by rfl) :
    PE X (.Call (.Attribute o mn apos) (e :: es) [] pos) (tMethD X.mg cn mn (spD X.K X.mg (ctF F)) ta t) := pe_mtD D.m (pe_methG he D.c D.me D.g hgd hr D.b pass0 ha hst hpl ht)
theorem pe_callM0 {pl : Sem Bool} (D : Mi X.prog X.w X.K X.mg X.base k cn mn ps F C f fd) (hgd : X.A.guards = some []) (hr : Room k X.A) (he : PE X o ta)
    (ht : eval (.Call (.Attribute o mn apos) [] [] pos) X.env = (do
      let ov ← eval o X.env
      standAt apos.atName
      let (f, first) ← holding [ov] (getMethod ov mn pl)
      callWith pos f first (backTo pos (starEach [] X.env)) (backToKw pos (keywordEach [] X.env))) := by rfl) :
    PE X (.Call (.Attribute o mn apos) [] [] pos) (tMethD X.mg cn mn (spD X.K X.mg (ctF F)) ta tNil) := pe_mtD D.m (pe_methG0 he D.c D.me D.g hgd hr D.b pass0 ht)
theorem op_eqM (D : Mi X.prog X.w X.K X.mg X.base k cn "__eq__" ps F C f fd) (hgd : X.A.guards = some []) (hr : Room k X.A) : OpR X (compareOp .Eq) (rEqD X.mg cn (spD X.K X.mg (ctF F))) := op_eqD D.m (op_eqI D.me.at_ D.me.fn D.g hgd hr D.b pass0)
end
/-! ### keywords: m arguments by place, then the others in the order of the parameters -/
def kwP {α : Type} (m : Nat) (is : List Nat) (vs us : List α) : List α := match vs.length == m with
  | true => vs ++ is.filterMap (us[·]?)
  | false => []
theorem kwP_dt (m : Nat) (is : List Nat) {wd : Wd} {B : Addr → Prop} {K : PySem.W.Frag} {H : Hp} {vs us : List V} {ds es : List Dv} (h : DtA wd B K H vs ds) (k : DtA wd B K H us es) : DtA wd B K H (kwP m is vs us) (kwP m is ds es) := by
  unfold kwP
  rw [h.length]
  split
  · refine h.append ?_
    induction is with
    | nil => exact .nil
    | cons i is ih =>
      rw [List.filterMap_cons, List.filterMap_cons]
      cases q : es[i]? with
      | none =>
        have : us[i]? = none := by
          rw [List.getElem?_eq_none_iff] at q ⊢
          rw [k.length]; exact q
        rw [this]
        exact ih
      | some d =>
        obtain ⟨v, hv, hd⟩ := k.get q
        rw [hv]
        exact .cons hd ih
  · exact .nil
theorem fm_len {α : Type} : ∀ {is : List Nat} {ws : List α}, (is.filterMap (ws[·]?)).length = is.length → ∀ i ∈ is, i < ws.length
  | [], _, _, i, hi => by simp at hi
  | j :: is, ws, h, i, hi => by
    rw [List.filterMap_cons] at h
    have le : (is.filterMap (ws[·]?)).length ≤ is.length := List.length_filterMap_le _ _
    cases q : ws[j]? with
    | none => rw [q] at h; simp only [List.length_cons] at h; omega
    | some x =>
      rw [q] at h
      simp only [List.length_cons, Nat.add_right_cancel_iff] at h
      rcases List.mem_cons.mp hi with rfl | hi
      · exact (List.getElem?_eq_some_iff.mp q).1
      · exact fm_len h i hi
theorem kwP_len {α : Type} {n m k : Nat} {is : List Nat} {us ws : List α} (h : (kwP n is us ws).length = m) (hm : m = n + is.length ∧ 0 < m) (hk : ∃ i ∈ is, i + 1 = k) : us.length = n ∧ k ≤ ws.length := by
  unfold kwP at h
  split at h
  · rename_i q
    have q' : us.length = n := by simpa using q
    refine ⟨q', ?_⟩
    rw [List.length_append] at h
    obtain ⟨i, hi, e⟩ := hk
    have := fm_len (is := is) (ws := ws) (by omega) i hi
    omega
  · simp only [List.length_nil] at h
    omega
theorem kwP_vals (m : Nat) (is : List Nat) {vs : List V} {us : List Value} {zs : List V} {ws : List Value} (h : Vals vs us) (k : Vals zs ws) : Vals (kwP m is vs zs) (kwP m is us ws) := by
  unfold kwP
  rw [h.length]
  split
  · refine h.append ?_
    induction is with
    | nil => exact .nil
    | cons i is ih =>
      rw [List.filterMap_cons, List.filterMap_cons]
      cases q : zs[i]? with
      | none => rw [k.none_of q]; exact ih
      | some d =>
        obtain ⟨u, hv, hd⟩ := k.get q
        rw [hv]
        exact .cons hd ih
  · exact .nil
end DL
namespace DL
open PySem PySem.Spec L2
theorem rd_by {X : Cx} {b : List Stmt} {t t' : TS} (h : PSs X b t) (e : t = t') : PSs X b t' := e ▸ h
/-- a draw -/
def drawF (kb : Str) (ds : List Dv) : T Dv := match ds with
  | [.deck k, .int b] => T.grd (decide (k = kb)) (.draw b fun i => .ret (.int i))
  | _ => .fail
theorem drawF_wp {kb : Str} {ds : List Dv} {n : Nat} {R : RP} (h : ctF (drawF kb) n ds R) : ∃ b : Int, ds = [.deck kb, .int b] ∧ 0 < b ∧ b < 1073741824 ∧ 2 ≤ n ∧ ∀ j : Int, 0 ≤ j → j < b → R (n - 2) (.int j) := by
  unfold ctF drawF at h
  split at h
  · obtain ⟨h1, h2⟩ := T.wp_grd.mp h
    cases of_decide_eq_true h1
    exact ⟨_, rfl, h2⟩
  · exact h.elim
/-- the deck's making -/
def deckC (kb : Str) : Ct := fun n ds R => ∃ ns : List Int, ds = [.scr ns] ∧ ∀ (cs : List Int) (m : Int), cs.length ≤ 63 → 0 ≤ m → m < 4294967296 → R n (.dic [(Sum.inr "cells", .lst (cs.map Dv.int)), (Sum.inr kb, .int m), (Sum.inr "draws", .int 0)])
/-- the law behind its deck -/
def envL (kb : Str) (k : Nat) : DL.Env := none :: some (.fz (.deck kb)) :: List.replicate (k - 2) none
def outL : Out → T Dv
  | .rt d => .ret d
  | _ => .fail
def runL (kb : Str) (k : Nat) (q : Sm) : T Dv := (evS q (envL kb k)).bind outL
theorem lawF {P : Program} {w : World} {K : PySem.W.Frag} {mg : Str → Option Value} {base : Heap} {k : Nat} {f : Addr} {fd : FuncData} {p x qual kb : Str} {st : Stmt} {NN : List Str} {q : Sm} {l : Nat}
    (F : Fun K x qual st f fd) (S : FnScope NN [p] (defScope st)) (hN : 2 ≤ NN.length) (hl : NN.length = l)
    (hb : ∀ (cdv : Value) (A : Around) (outer : List PySem.Env) (s : Shared) (H : Hp) (E : XK), A.guards = some [] →
      Room k (A.deeper (PyProof.Rows.envOfC qual (defScope st) s.heap.objs.size f cdv)) →
      PSs (cxOf CX0 P w K mg base NN qual (defScope st) f cdv A outer s H E).nox (defBody st) (tSeq (tAsg (tCall (spD K mg (deckC kb)) [] E0 (tCons (tVar 0) tNil)) (gName 1)) (rdS ⟨K, mg⟩ q)))
    (h : (runL kb l q).wp 4000000 (fun _ d => d = .bl true) noX) : FnG P w K mg base CX0 (k + 1) f fd [p] (spL K) := by
  refine lawD (kb := kb) (Cd := deckC kb) F S hN hb (fun n ns R hR => ⟨ns, rfl, fun cs m h1 h2 h3 => hR cs m h1 h2 h3⟩) fun c hK hM => ?_
  have h1 := (T.wp_bind _ _ _).mp h
  rw [hl]
  refine soS ⟨hK.symm, hM.symm⟩ q 4000000 _ _ (T.wp_mono (fun n o z => ?_) (fun _ _ z => z) _ _ h1)
  cases o <;> first | exact z | exact z.elim
end DL

set_option Elab.async false
set_option linter.all false
set_option maxRecDepth 100000
set_option maxHeartbeats 2000000
/-! F7: the reading of each piece of data, told. -/
namespace DL
open PySem PySem.Spec L2
section
variable {g : Gx} {a b e : Ex} {as bs : Ar} {t u : Te}
theorem rx_con {v : V} {d : Dv} {h : ∀ wd B K H, Dt wd B K H v d} : rdE g (.con v d h) = tC v := rfl
theorem rx_var {i : Nat} : rdE g (.var i) = tVar i := rfl
theorem rx_add : rdE g (.o2 addO.o2 a b) = tOp (rAddV g.K) (rdE g a) (rdE g b) := rfl
theorem rx_sub : rdE g (.o2 subO.o2 a b) = tOp rSubV (rdE g a) (rdE g b) := rfl
theorem rx_mul : rdE g (.o2 mulO.o2 a b) = tOp rMulU (rdE g a) (rdE g b) := rfl
theorem rx_fdiv : rdE g (.o2 fdivO.o2 a b) = tOp (rI CDiv fun i j => .int (i / j)) (rdE g a) (rdE g b) := rfl
theorem rx_mod : rdE g (.o2 modO.o2 a b) = tOp (rI (fun _ j => 0 < j) fun i j => .int (i % j)) (rdE g a) (rdE g b) := rfl
theorem rx_pow : rdE g (.o2 powO.o2 a b) = tOp (rI CPow fun i j => .int (i ^ j.toNat)) (rdE g a) (rdE g b) := rfl
theorem rx_ix : rdE g (.o2 ixO.o2 a b) = tOp (rIx g.K) (rdE g a) (rdE g b) := rfl
theorem rx_eq : rdE g (.o2 eqO.o2 a b) = tOp (rEqW g.K false) (rdE g a) (rdE g b) := rfl
theorem rx_ne : rdE g (.o2 neO.o2 a b) = tOp (rEqV g.K true) (rdE g a) (rdE g b) := rfl
theorem rx_cmp {f : Int → Int → Bool} {k : List Nat → List Nat → Bool} : rdE g (.o2 (cmpO f k).o2 a b) = tOp (rCmpU f k) (rdE g a) (rdE g b) := rfl
theorem rx_in : rdE g (.o2 inO.o2 a b) = tOp (rInU g.K false) (rdE g a) (rdE g b) := rfl
theorem rx_nin : rdE g (.o2 ninO.o2 a b) = tOp (rInU g.K true) (rdE g a) (rdE g b) := rfl
theorem rx_neg : rdE g (.o1 negO a) = tUn (rU fun i => .int (-i)) (rdE g a) := rfl
theorem rx_not : rdE g (.o1 notO a) = tNotV (rdE g a) := rfl
theorem rx_isN : rdE g (.o1 isNO a) = tIsN (rdE g a) := rfl
theorem rx_nisN : rdE g (.o1 nisNO a) = tNotN (rdE g a) := rfl
theorem rx_rev : rdE g (.o1 revO a) = tRevA g.K (rdE g a) := rfl
theorem rx_sortSet : rdE g (.o1 sortSetO a) = tSortSet (rdE g a) := rfl
theorem rx_fld {f : Str} : rdE g (.o1 (fldO f) a) = tFld g.K (rdE g a) f := rfl
theorem rx_ofld {i : Nat} {f : Str} : rdE g (ofldE i f) = tFld g.K (tVar i) f := rfl
theorem rx_isC {cn : Str} : rdE g (.o1 (isCO cn) a) = tIsC g.K g.mg cn (rdE g a) := rfl
theorem rx_isi {T : String} {h : T ∈ ["bool", "int", "str", "tuple", "list", "dict"]} : rdE g (.o1 (isiO T h) a) = tCB (rIsi g.K) (tCons (rdE g a) (tCons (tC (.ty T)) tNil)) := rfl
theorem rx_kget {tab : List (Str × V)} : rdE g (.o1 (kgetO tab) a) = tKGet tab (rdE g a) := rfl
theorem rx_kin {x : Str} {tab : List (Str × V)} : rdE g (.o1 (kinO x tab) a) = tKIn1 g.mg x tab (rdE g a) := rfl
theorem rx_knin {x : Str} {tab : List (Str × V)} : rdE g (.o1 (kninO x tab) a) = tKNin1 g.mg x tab (rdE g a) := rfl
theorem rx_dget : rdE g (.o2 dgetO a b) = tDGet (rdE g a) (rdE g b) := rfl
theorem rx_getV : rdE g (.o2 getVO a b) = tDGet (rdE g a) (rdE g b) := rfl
theorem rx_has : rdE g (.o2 hasO a b) = tDIn (rdE g a) (rdE g b) := rfl
theorem rx_hasN : rdE g (.o2 hasNO a b) = tDNotIn (rdE g a) (rdE g b) := rfl
theorem rx_ogetT {i : Nat} : rdE g (ogetTE i a) = tDGet (tVar i) (rdE g a) := rfl
theorem rx_ohas {i : Nat} : rdE g (ohasE i a) = tDIn (rdE g a) (tVar i) := rfl
theorem rx_ohasN {i : Nat} : rdE g (ohasNE i a) = tDNotIn (rdE g a) (tVar i) := rfl
theorem rx_join : rdE g (.m2 joinO a b) = tM1 (rJoin g.K) (rdE g a) (rdE g b) := rfl
theorem rx_tup : rdE g (.on tupO as) = tTup (rdA g as) := rfl
theorem rx_lst : rdE g (.on lstO as) = tLst (rdA g as) := rfl
theorem rx_dnew : rdE g (.on dnewO .nil) = tDNewK := rfl
theorem rx_len : rdE g (.on lenO as) = tCB (fun xs H Q => ∃ x n, xs = [x] ∧ LenV g.K x H n ∧ Q (.int n) H) (rdA g as) := rfl
theorem rx_int : rdE g (.on intO as) = tCB (fun xs H Q => (∃ i, xs = [.int i] ∧ Q (.int i) H) ∨ ∃ k, xs = [.bl k] ∧ Q (.int (if k then 1 else 0)) H) (rdA g as) := rfl
theorem rx_str : rdE g (.on strO as) = tCB rStrA (rdA g as) := rfl
theorem rx_list : rdE g (.on listO as) = tCB (rListA g.K) (rdA g as) := rfl
theorem rx_tuple : rdE g (.on tupleO as) = tCB (rTupOf g.K) (rdA g as) := rfl
theorem rx_sum : rdE g (.on sumO as) = tCB (rSum g.K) (rdA g as) := rfl
theorem rx_all : rdE g (.on allO as) = tCB (rAll g.K) (rdA g as) := rfl
theorem rx_repr : rdE g (.on reprO as) = tCB (rRepr g.K) (rdA g as) := rfl
theorem rx_sortedS : rdE g (.on sortedSO as) = tCB (rSortedS g.K) (rdA g as) := rfl
theorem rx_abs : rdE g (.on absO as) = tCB (fun xs H Q => ∃ i, xs = [.int i] ∧ Q (.int (if i < 0 then -i else i)) H) (rdA g as) := rfl
theorem rx_max2 : rdE g (.on max2O as) = tCB (fun xs H Q => ∃ i j, xs = [.int i, .int j] ∧ Q (.int (if j > i then j else i)) H) (rdA g as) := rfl
theorem rx_min2 : rdE g (.on min2O as) = tCB (fun xs H Q => ∃ i j, xs = [.int i, .int j] ∧ Q (.int (if j < i then j else i)) H) (rdA g as) := rfl
theorem rx_call {F : List Dv → T Dv} : rdE g (.ot (callO F) as) = tCall (spD g.K g.mg (ctF F)) [] E0 (rdA g as) := rfl
theorem rx_mk {cn : Str} {F : List Dv → T Dv} : rdE g (.ot (mkO cn F) as) = tMakeD g.K g.mg cn (ctF F) (rdA g as) := rfl
theorem rx_callK {F : List Dv → T Dv} {m : Nat} {is : List Nat} {h} : rdE g (.ok (callKO F (kwP m is) (kwP m is) h) as bs) = tCallK (spD g.K g.mg (ctF F)) (kwP m is) E0 (rdA g as) (rdA g bs) := rfl
theorem rx_meth {cn m : Str} {F : List Dv → T Dv} : rdE g (methE cn m F a as) = tMethD g.mg cn m (spD g.K g.mg (ctF F)) (rdE g a) (rdA g as) := rfl
theorem rx_eqi {cn : Str} {F : List Dv → T Dv} : rdE g (eqiE cn F a b) = tOp (rEqD g.mg cn (spD g.K g.mg (ctF F))) (rdE g a) (rdE g b) := rfl
theorem rx_and : rdE g (.and a b) = tAndV (rdE g a) (rdE g b) := rfl
theorem rx_or : rdE g (.or a b) = tOrV (rdE g a) (rdE g b) := rfl
theorem rx_ifx : rdE g (.ifx t a b) = tIf (rdT g t) (rdE g a) (rdE g b) := rfl
theorem rx_chain {o o' : C2} : rdE g (.chain o o' a b e) = tChain (o.r g) (o'.r g) (rdE g a) (rdE g b) (rdE g e) := rfl
theorem rx_sl {lo hi : Po} : rdE g (.sl a lo hi) = tSl (rSlU g.K) (rdE g a) (rdO g lo) (rdO g hi) := rfl
theorem rx_lc {wi : Wk} {w : Tg} : rdE g (.lc wi w t a) = tLc (rdW g wi) (rdG g.K w) (rdT g t) (rdE g a) (slotsG w) := rfl
theorem rl_nm {i : Nat} : slotsG (.nm i) = [i] := rfl
theorem rl_tup {k : Nat} {gs : Tgs} : slotsG (.tup k gs) = slotsGs gs := rfl
theorem rl_unl {k : Nat} {gs : Tgs} : slotsG (.unl k gs) = slotsGs gs := rfl
theorem rl_nil : slotsGs .nil = [] := rfl
theorem rl_cons {w : Tg} {gs : Tgs} : slotsGs (.cons w gs) = slotsG w ++ slotsGs gs := rfl
theorem rl_app {i : Nat} {l : List Nat} : [i] ++ l = i :: l := rfl
theorem rl_app0 {l : List Nat} : [] ++ l = l := rfl
theorem rx_disp {ps : Pr} : rdE g (.disp ps) = tDisp (rdP g ps) := rfl
theorem rx_bor {i : Nat} : rdE g (.bor i a) = rdE g a := rfl
theorem rx_oix {i : Nat} : rdE g (.oix i a) = tOp (rIx g.K) (tVar i) (rdE g a) := rfl
theorem rx_oget {i : Nat} : rdE g (.oget i a) = tDGet (tVar i) (rdE g a) := rfl
theorem rr_eq : eqO.r g = rEqW g.K false := rfl
theorem rr_ne : neO.r g = rEqV g.K true := rfl
theorem rr_cmp {f : Int → Int → Bool} {k : List Nat → List Nat → Bool} : (cmpO f k).r g = rCmpU f k := rfl
theorem rr_in : inO.r g = rInU g.K false := rfl
theorem rr_nin : ninO.r g = rInU g.K true := rfl
theorem ra_nil : rdA g .nil = tNil := rfl
theorem ra_cons : rdA g (.cons a as) = tCons (rdE g a) (rdA g as) := rfl
theorem rt_tst : rdT g (.tst a) = tTest (rdE g a) := rfl
theorem rt_tb : rdT g (.tb a) = tB (rdE g a) := rfl
theorem rt_tru : rdT g (.tru a) = fun σ H Q => rdE g a σ H fun x H' => ∃ k, TruV g.K x H' k ∧ Q k H' := rfl
theorem rt_not : rdT g (.not t) = tNot (rdT g t) := rfl
theorem rt_and : rdT g (.and t u) = tAnd (rdT g t) (rdT g u) := rfl
theorem rt_or : rdT g (.or t u) = tOr (rdT g t) (rdT g u) := rfl
theorem rt_yes : rdT g .yes = tYes := rfl
theorem rt_bor {i : Nat} : rdT g (.bor i t) = rdT g t := rfl
theorem ro_non : rdO g .non = tNoPart := rfl
theorem ro_som : rdO g (.som a) = tPart (rdE g a) := rfl
theorem rw_any : rdW g (.w1 wanyO a) = iAny g.K (rdE g a) := rfl
theorem rw_rng1 : rdW g (.wn rng1O as) = iRng1 (rdA g as) := rfl
theorem rw_rng2 : rdW g (.wn rng2O as) = iRng2 (rdA g as) := rfl
theorem rw_enum : rdW g (.wn enumAO as) = iEnumA g.K (rdA g as) := rfl
theorem rp_nil : rdP g .nil = [] := rfl
theorem rp_cons {ps : Pr} : rdP g (.cons a b ps) = (rdE g a, rdE g b) :: rdP g ps := rfl
theorem rg_nm {K : PySem.W.Frag} {i : Nat} : rdG K (.nm i) = gName i := rfl
theorem rg_tup {K : PySem.W.Frag} {k : Nat} {gs : Tgs} : rdG K (.tup k gs) = gTup K k (rdGs K gs) := rfl
theorem rg_unl {K : PySem.W.Frag} {k : Nat} {gs : Tgs} : rdG K (.unl k gs) = gUnl K k (rdGs K gs) := rfl
theorem rg_nil {K : PySem.W.Frag} : rdGs K .nil = gNil := rfl
theorem rg_cons {K : PySem.W.Frag} {w : Tg} {gs : Tgs} : rdGs K (.cons w gs) = gCons (rdG K w) (rdGs K gs) := rfl
variable {s s' : Sm}
theorem rs_seq : rdS g (.seq s s') = tSeq (rdS g s) (rdS g s') := rfl
theorem rs_nx : rdS g .nx = tNext := rfl
theorem rs_brk : rdS g .brk = tBreak := rfl
theorem rs_cnt : rdS g .cnt = tCont := rfl
theorem rs_ret : rdS g (.ret a) = tRet (rdE g a) := rfl
theorem rs_retN : rdS g .retN = tRetN := rfl
theorem rs_iff : rdS g (.iff t s s') = tIfS (rdT g t) (rdS g s) (rdS g s') := rfl
theorem rs_for {wi : Wk} {w : Tg} {fg : List Nat} : rdS g (.for wi w s fg) = tFor (rdW g wi) (rdG g.K w) (rdS g s) := rfl
theorem rs_whl {fg : List Nat} : rdS g (.whl t s fg) = tWhile (rdT g t) (rdS g s) := rfl
theorem rs_asg {w : Tg} : rdS g (.asg a w) = tAsg (rdE g a) (rdG g.K w) := rfl
theorem rs_par2 {i j : Nat} : rdS g (.par2 i j as) = tPar i j (rdA g as) := rfl
theorem rs_par3 {i j m : Nat} : rdS g (.par3 i j m as) = tPar3 i j m (rdA g as) := rfl
theorem rs_drop : rdS g (.drop a) = tDrop (rdE g a) := rfl
theorem rs_newL {i : Nat} : rdS g (.newL i as) = tAsg (tLst (rdA g as)) (gName i) := rfl
theorem rs_newD {i : Nat} : rdS g (.newD i) = tAsg tDNewK (gName i) := rfl
theorem rs_app {i : Nat} : rdS g (.app i a) = tDrop (tBM g.K "list" rAppend (tVar i) (tCons (rdE g a) tNil)) := rfl
theorem rs_ext {i : Nat} : rdS g (.ext i a) = tDrop (tBM g.K "list" rExtend (tVar i) (tCons (rdE g a) tNil)) := rfl
theorem rs_pop0 {i : Nat} : rdS g (.pop0 i) = tDrop (tBM0 g.K "list" rPop (tVar i)) := rfl
theorem rs_pop {i j : Nat} : rdS g (.pop i j) = tAsg (tBM0 g.K "list" rPop (tVar i)) (gName j) := rfl
theorem rs_oset {i : Nat} : rdS g (.oset i a b) = tAsg (rdE g b) (gSub (tVar i) (rdE g a) rSetL) := rfl
theorem rs_oput {i : Nat} : rdS g (.oput i a b) = sDPut (tVar i) (rdE g a) (rdE g b) := rfl
theorem rs_frz {i : Nat} : rdS g (.frz i s) = rdS g s := rfl
theorem rs_fgt {is : List Nat} : rdS g (.fgt is s) = rdS g s := rfl
theorem rs_fset {i : Nat} {f : Str} : rdS g (fsetS i f a) = sFld g.K (tVar i) (rdE g a) f := rfl
theorem rs_newT {i : Nat} : rdS g (newTS i) = tAsg tDNewT (gName i) := rfl
theorem rs_oputT {i : Nat} : rdS g (oputTS i a b) = sDPut (tVar i) (rdE g a) (rdE g b) := rfl
theorem rs_never : rdS g neverS = tNever := rfl
theorem rs_parS {i j : Nat} {ps : List Pi} : rdS g (parS i j ps) = tPar i j (rdIs g ps) := rfl
theorem rs_par3S {i j m : Nat} {ps : List Pi} : rdS g (par3S i j m ps) = tPar3 i j m (rdIs g ps) := rfl
theorem ri_nil : rdIs g [] = tNil := rfl
theorem ri_ex {ps : List Pi} : rdIs g (.ex a :: ps) = tCons (rdE g a) (rdIs g ps) := rfl
theorem ri_nl {ps : List Pi} : rdIs g (.nl :: ps) = tCons (tLst tNil) (rdIs g ps) := rfl
theorem ri_nd {ps : List Pi} : rdIs g (.nd :: ps) = tCons tDNewK (rdIs g ps) := rfl
theorem ri_nt {ps : List Pi} : rdIs g (.nt :: ps) = tCons tDNewT (rdIs g ps) := rfl
end
end DL

set_option Elab.async false
set_option linter.all false
set_option maxRecDepth 100000
set_option maxHeartbeats 2000000
namespace K60
open PySem PySem.Spec L2 DL
abbrev tab_OPPOSITE : List (Str × V) := [("x", .str "-"), ("-", .str "x")]
abbrev tab_OTHER : List (Str × V) := [("x", .str "-"), ("-", .str "x")]
def q_is_pick : Sm :=
    (.ret (.and (.o1 (isiO "str" (by decide)) (.var 0)) (.and (.o2 neO.o2 (.var 0) (cS "")) (.on allO (.cons (.lc (.w1 wanyO (.var 0)) (.nm 1) .yes (.o1 (kinO "OTHER" tab_OTHER) (.var 1))) .nil)))))
def F_is_pick : List Dv → T Dv := runF 1 2 q_is_pick
def q_Cloth___init__ : Sm :=
    (.seq (.iff (.or (.not (.tb (.o1 (isiO "tuple" (by decide)) (.var 1)))) (.tst (.o2 eqO.o2 (.var 1) (.on tupO .nil)))) neverS .nx)
    (.seq (.for (.wn enumAO (.cons (.var 1) .nil)) (.tup 2 (.cons (.nm 2) (.cons (.nm 3) .nil))) (.iff (.or (.not (.tb (.ot (callO F_is_pick) (.cons (.var 3) .nil)))) (.tst (.o2 neO.o2 (.on lenO (.cons (.var 3) .nil)) (.on lenO (.cons (.o2 ixO.o2 (.var 1) (cI 0)) .nil))))) neverS .nx) [2, 3])
    (.seq (fsetS 0 "picks" (.var 1))
    (fsetS 0 "ends" (.on lenO (.cons (.o2 ixO.o2 (.var 1) (cI 0)) .nil))))))
def F_Cloth___init__ : List Dv → T Dv := runI "Cloth" 1 4 q_Cloth___init__
abbrev F__law_draw : List Dv → T Dv := drawF "blend"
def q__law_pick : Sm :=
    (.ret (.o2 ixO.o2 (.var 1) (.ot (callO F__law_draw) (.cons (.var 0) (.cons (.on lenO (.cons (.var 1) .nil)) .nil)))))
def F__law_pick : List Dv → T Dv := runF 2 2 q__law_pick
def q__law_cloth : Sm :=
    (.seq (.asg (.on tupO (.cons (.o2 addO.o2 (cI 1) (.ot (callO F__law_draw) (.cons (.var 0) (.cons (.var 1) .nil)))) (.cons (.o2 addO.o2 (cI 1) (.ot (callO F__law_draw) (.cons (.var 0) (.cons (.var 2) .nil)))) (.cons (.ot (callO F__law_draw) (.cons (.var 0) (.cons (cI 5) .nil))) .nil)))) (.tup 3 (.cons (.nm 3) (.cons (.nm 4) (.cons (.nm 5) .nil)))))
    (.seq (.iff (.tst (.o2 eqO.o2 (.var 5) (cI 0))) (.seq (.asg (.on tupO (.cons (.o2 addO.o2 (cI 1) (.ot (callO F__law_draw) (.cons (.var 0) (.cons (cI 3) .nil)))) (.cons (.o2 addO.o2 (cI 1) (.ot (callO F__law_draw) (.cons (.var 0) (.cons (cI 3) .nil)))) (.cons (.o2 addO.o2 (cI 2) (.ot (callO F__law_draw) (.cons (.var 0) (.cons (cI 3) .nil)))) .nil)))) (.tup 3 (.cons (.nm 6) (.cons (.nm 7) (.cons (.nm 8) .nil)))))
    (.seq (.asg (.o2 addO.o2 (cI 1) (.ot (callO F__law_draw) (.cons (.var 0) (.cons (.o2 subO.o2 (.var 8) (cI 1)) .nil)))) (.nm 9))
    (.asg (.lc (.wn rng1O (.cons (.var 3) .nil)) (.nm 14) .yes (.lc (.wn rng1O (.cons (.var 4) .nil)) (.nm 16) .yes (.o2 ixO.o2 (cS "-x") (.on intO (.cons (.o2 ltO.o2 (.o2 modO.o2 (.o2 addO.o2 (.o2 mulO.o2 (.var 14) (.var 6)) (.o2 mulO.o2 (.var 16) (.var 7))) (.var 8)) (.var 9)) .nil))))) (.nm 10)))) (.seq (.asg (.ot (callO F__law_pick) (.cons (.var 0) (.cons (.on lstO (.cons (cI 2) (.cons (cI 2) (.cons (cI 3) (.cons (cI 6) .nil))))) .nil))) (.nm 11))
    (.seq (.asg (.ifx (.tst (.o2 eqO.o2 (.var 5) (cI 1))) (.on lstO (.cons (.o2 addO.o2 (cI 1) (.ot (callO F__law_draw) (.cons (.var 0) (.cons (.var 3) .nil)))) (.cons (.o2 addO.o2 (cI 1) (.ot (callO F__law_draw) (.cons (.var 0) (.cons (.var 4) .nil)))) .nil))) (.on lstO (.cons (.var 3) (.cons (.var 4) .nil)))) (.nm 12))
    (.seq (.asg (.lc (.wn rng1O (.cons (.o2 ixO.o2 (.var 12) (cI 0)) .nil)) (.nm 14) .yes (.lc (.wn rng1O (.cons (.o2 ixO.o2 (.var 12) (cI 1)) .nil)) (.nm 16) .yes (.o2 ixO.o2 (cS "x-") (.on intO (.cons (.o2 gtO.o2 (.ot (callO F__law_draw) (.cons (.var 0) (.cons (.var 11) .nil))) (cI 0)) .nil))))) (.nm 13))
    (.asg (.lc (.wn rng1O (.cons (.var 3) .nil)) (.nm 14) .yes (.lc (.wn rng1O (.cons (.var 4) .nil)) (.nm 16) .yes (.o2 ixO.o2 (.o2 ixO.o2 (.var 13) (.o2 modO.o2 (.var 14) (.o2 ixO.o2 (.var 12) (cI 0)))) (.o2 modO.o2 (.var 16) (.o2 ixO.o2 (.var 12) (cI 1)))))) (.nm 10))))))
    (.ret (.on tupleO (.cons (.lc (.w1 wanyO (.var 10)) (.nm 15) .yes (.m2 joinO (cS "") (.var 15))) .nil)))))
def F__law_cloth : List Dv → T Dv := runF 3 17 q__law_cloth
def q__law_turns : Sm :=
    (.seq (.asg (.on lstO (.cons (cS "") .nil)) (.nm 0))
    (.seq (.for (.w1 wanyO (cS "epsw")) (.nm 1) (.asg (.o2 addO.o2 (.var 0) (.lc (.w1 wanyO (.var 0)) (.nm 2) .yes (.o2 addO.o2 (.var 2) (.var 1)))) (.nm 0)) [1, 2])
    (.ret (.on sortedSO (.cons (.var 0) .nil)))))
def F__law_turns : List Dv → T Dv := runF 0 3 q__law_turns
def q__law_motion : Sm :=
    (.seq (.par2 1 2 (.cons (.ot (callO F__law_pick) (.cons (.var 0) (.cons (.ot (callO F__law_turns) .nil) .nil))) (.cons (.ifx (.tst (.o2 gtO.o2 (.ot (callO F__law_draw) (.cons (.var 0) (.cons (cI 4) .nil))) (cI 0))) (cI 9) (cI 41)) .nil)))
    (.ret (.on tupO (.cons (.var 1) (.cons (.o2 subO.o2 (.ot (callO F__law_draw) (.cons (.var 0) (.cons (.var 2) .nil))) (.o2 fdivO.o2 (.var 2) (cI 2))) (.cons (.o2 subO.o2 (.ot (callO F__law_draw) (.cons (.var 0) (.cons (.var 2) .nil))) (.o2 fdivO.o2 (.var 2) (cI 2))) .nil))))))
def F__law_motion : List Dv → T Dv := runF 1 3 q__law_motion
def q_Cloth___eq__ : Sm :=
    (.ret (.and (.o1 (isCO "Cloth") (.var 1)) (.o2 eqO.o2 (.o1 (fldO "picks") (.var 0)) (.o1 (fldO "picks") (.var 1)))))
def F_Cloth___eq__ : List Dv → T Dv := runF 2 2 q_Cloth___eq__
def q__law_other : Sm :=
    (.ret (.ifx (.tst (.o2 eqO.o2 (.var 0) (cS "-"))) (cS "x") (cS "-")))
def F__law_other : List Dv → T Dv := runF 1 1 q__law_other
def q__law_moved : Sm :=
    (.seq (.asg (.var 1) (.tup 3 (.cons (.nm 2) (.cons (.nm 3) (.cons (.nm 4) .nil)))))
    (.seq (.par2 5 6 (.cons (.on lenO (.cons (.var 0) .nil)) (.cons (.on lenO (.cons (.o2 ixO.o2 (.var 0) (cI 0)) .nil)) .nil)))
    (.seq (.iff (.tst (.o2 inO.o2 (cS "w") (.var 2))) (.par2 5 6 (.cons (.var 6) (.cons (.var 5) .nil))) .nx)
    (.seq (.newL 7 .nil)
    (.seq (.for (.wn rng1O (.cons (.var 5) .nil)) (.nm 8) (.seq (.asg (cS "") (.nm 9))
    (.seq (.for (.wn rng1O (.cons (.var 6) .nil)) (.nm 10) (.seq (.par2 11 12 (.cons (.o2 subO.o2 (.var 8) (.var 3)) (.cons (.o2 subO.o2 (.var 10) (.var 4)) .nil)))
    (.seq (.asg (.ifx (.tst (.o2 inO.o2 (cS "p") (.var 2))) (.o2 subO.o2 (cI 0) (.var 11)) (.var 11)) (.nm 11))
    (.seq (.asg (.ifx (.tst (.o2 inO.o2 (cS "e") (.var 2))) (.o2 subO.o2 (cI 0) (.var 12)) (.var 12)) (.nm 12))
    (.seq (.iff (.tst (.o2 inO.o2 (cS "w") (.var 2))) (.par2 11 12 (.cons (.var 12) (.cons (.var 11) .nil))) .nx)
    (.seq (.asg (.o2 ixO.o2 (.o2 ixO.o2 (.var 0) (.o2 modO.o2 (.var 11) (.on lenO (.cons (.var 0) .nil)))) (.o2 modO.o2 (.var 12) (.on lenO (.cons (.o2 ixO.o2 (.var 0) (cI 0)) .nil)))) (.nm 13))
    (.asg (.o2 addO.o2 (.var 9) (.ifx (.tst (.o2 neO.o2 (.o2 inO.o2 (cS "w") (.var 2)) (.o2 inO.o2 (cS "s") (.var 2)))) (.ot (callO F__law_other) (.cons (.var 13) .nil)) (.var 13))) (.nm 9))))))) [10, 11, 12, 13])
    (.app 7 (.var 9)))) [8, 9, 10, 11, 12, 13])
    (.frz 7 (.ret (.on tupleO (.cons (.var 7) .nil)))))))))
def F__law_moved : List Dv → T Dv := runF 2 14 q__law_moved
def q__law_led : Sm :=
    (.seq (.asg (.var 1) (.tup 2 (.cons (.nm 2) (.cons (.nm 3) .nil))))
    (.seq (.iff (.tst (.o2 inO.o2 (cS "w") (.o2 ixO.o2 (.var 0) (cI 0)))) (.asg (.ifx (.tst (.o2 eqO.o2 (.var 2) (cS "end"))) (cS "pick") (cS "end")) (.nm 2)) .nx)
    (.seq (.iff (.tst (.o2 eqO.o2 (.var 2) (cS "end"))) (.ret (.on tupO (.cons (.var 2) (.cons (.o2 addO.o2 (.ifx (.tst (.o2 inO.o2 (cS "e") (.o2 ixO.o2 (.var 0) (cI 0)))) (.o2 subO.o2 (cI 0) (.var 3)) (.var 3)) (.o2 ixO.o2 (.var 0) (cI 2))) .nil)))) .nx)
    (.ret (.on tupO (.cons (.var 2) (.cons (.o2 addO.o2 (.ifx (.tst (.o2 inO.o2 (cS "p") (.o2 ixO.o2 (.var 0) (cI 0)))) (.o2 subO.o2 (cI 0) (.var 3)) (.var 3)) (.o2 ixO.o2 (.var 0) (cI 1))) .nil)))))))
def F__law_led : List Dv → T Dv := runF 2 4 q__law_led
def q__law_periods : Sm :=
    (.seq (.asg (.o2 ixO.o2 (.lc (.wn rng2O (.cons (cI 1) (.cons (.o2 addO.o2 (.on lenO (.cons (.var 0) .nil)) (cI 1)) .nil))) (.nm 3) (.tst (.o2 eqO.o2 (.o2 addO.o2 (.sl (.var 0) (.som (.var 3)) .non) (.sl (.var 0) .non (.som (.var 3)))) (.var 0))) (.var 3)) (cI 0)) (.nm 1))
    (.seq (.newL 2 .nil)
    (.seq (.for (.wn rng2O (.cons (cI 1) (.cons (.o2 addO.o2 (.on lenO (.cons (.o2 ixO.o2 (.var 0) (cI 0)) .nil)) (cI 1)) .nil))) (.nm 3) (.ext 2 (.ifx (.tst (.o2 eqO.o2 (.lc (.w1 wanyO (.var 0)) (.nm 4) (.tst (.o2 neO.o2 (.o2 addO.o2 (.sl (.var 4) (.som (.var 3)) .non) (.sl (.var 4) .non (.som (.var 3)))) (.var 4))) (.var 4)) (.on lstO .nil))) (.on lstO (.cons (.var 3) .nil)) (.on lstO .nil))) [3, 4])
    (.frz 2 (.ret (.on tupO (.cons (.var 1) (.cons (.oix 2 (cI 0)) .nil))))))))
def F__law_periods : List Dv → T Dv := runF 1 5 q__law_periods
def q__law_spots : Sm :=
    (.seq (.asg (.ot (callO F__law_periods) (.cons (.var 0) .nil)) (.tup 2 (.cons (.nm 1) (.cons (.nm 2) .nil))))
    (.ret (.o2 addO.o2 (.lc (.wn rng1O (.cons (.var 2) .nil)) (.nm 3) .yes (.on tupO (.cons (cS "end") (.cons (.var 3) .nil)))) (.lc (.wn rng1O (.cons (.var 1) .nil)) (.nm 3) .yes (.on tupO (.cons (cS "pick") (.cons (.var 3) .nil)))))))
def F__law_spots : List Dv → T Dv := runF 1 4 q__law_spots
def q_is_over : Sm :=
    (.seq (.iff (.tst (.o2 eqO.o2 (.o2 ixO.o2 (.var 1) (cI 0)) (.o2 ixO.o2 (.var 2) (cI 0)))) (.ret (cB false)) .nx)
    (.seq (.iff (.tst (.o2 eqO.o2 (.o2 ixO.o2 (.var 1) (cI 0)) (cS "end"))) (.ret (.o2 eqO.o2 (.o2 ixO.o2 (.o2 ixO.o2 (.o1 (fldO "picks") (.var 0)) (.o2 ixO.o2 (.var 2) (cI 1))) (.o2 ixO.o2 (.var 1) (cI 1))) (cS "x"))) .nx)
    (.ret (.o2 eqO.o2 (.o2 ixO.o2 (.o2 ixO.o2 (.o1 (fldO "picks") (.var 0)) (.o2 ixO.o2 (.var 1) (cI 1))) (.o2 ixO.o2 (.var 2) (cI 1))) (cS "-")))))
def F_is_over : List Dv → T Dv := runF 3 3 q_is_over
def q_least_period : Sm :=
    (.seq (.asg (.on lenO (.cons (.var 0) .nil)) (.nm 1))
    (.seq (.for (.wn rng2O (.cons (cI 1) (.cons (.var 1) .nil))) (.nm 2) (.iff (.and (.tst (.o2 eqO.o2 (.o2 modO.o2 (.var 1) (.var 2)) (cI 0))) (.tb (.on allO (.cons (.lc (.wn rng1O (.cons (.o2 subO.o2 (.var 1) (.var 2)) .nil)) (.nm 3) .yes (.o2 eqO.o2 (.o2 ixO.o2 (.var 0) (.var 3)) (.o2 ixO.o2 (.var 0) (.o2 addO.o2 (.var 3) (.var 2))))) .nil)))) (.ret (.var 2)) .nx) [2, 3])
    (.ret (.var 1))))
def F_least_period : List Dv → T Dv := runF 1 4 q_least_period
def q_periods : Sm :=
    (.seq (.asg (.lc (.wn rng1O (.cons (.on lenO (.cons (.o2 ixO.o2 (.o1 (fldO "picks") (.var 0)) (cI 0)) .nil)) .nil)) (.nm 2) .yes (.m2 joinO (cS "") (.lc (.w1 wanyO (.o1 (fldO "picks") (.var 0))) (.nm 3) .yes (.o2 ixO.o2 (.var 3) (.var 2))))) (.nm 1))
    (.ret (.on tupO (.cons (.ot (callO F_least_period) (.cons (.o1 (fldO "picks") (.var 0)) .nil)) (.cons (.ot (callO F_least_period) (.cons (.var 1) .nil)) .nil)))))
def F_periods : List Dv → T Dv := runF 1 4 q_periods
def q_strand_behind : Sm :=
    (.seq (.asg (.var 1) (.tup 3 (.cons (.nm 3) (.cons (.nm 4) (.cons (.nm 5) .nil)))))
    (.seq (.asg (.var 2) (.tup 2 (.cons (.nm 6) (.cons (.nm 7) .nil))))
    (.seq (.iff (.tst (.o2 inO.o2 (cS "w") (.var 3))) (.asg (.ifx (.tst (.o2 eqO.o2 (.var 6) (cS "end"))) (cS "pick") (cS "end")) (.nm 6)) .nx)
    (.seq (.asg (.ifx (.tst (.o2 inO.o2 (cS "w") (.var 3))) (.o1 revO (.var 0)) (.var 0)) (.tup 2 (.cons (.nm 8) (.cons (.nm 9) .nil))))
    (.seq (.iff (.tst (.o2 eqO.o2 (.var 6) (cS "end"))) (.ret (.on tupO (.cons (cS "end") (.cons (.o2 modO.o2 (.o2 addO.o2 (.ifx (.tst (.o2 inO.o2 (cS "e") (.var 3))) (.o1 negO (.var 7)) (.var 7)) (.var 5)) (.var 9)) .nil)))) .nx)
    (.ret (.on tupO (.cons (cS "pick") (.cons (.o2 modO.o2 (.o2 addO.o2 (.ifx (.tst (.o2 inO.o2 (cS "p") (.var 3))) (.o1 negO (.var 7)) (.var 7)) (.var 4)) (.var 8)) .nil)))))))))
def F_strand_behind : List Dv → T Dv := runF 3 10 q_strand_behind
def q_strand_led : Sm :=
    (.ret (.ot (callO F_strand_behind) (.cons (.ot (callO F_periods) (.cons (.var 0) .nil)) (.cons (.var 1) (.cons (.var 2) .nil)))))
def F_strand_led : List Dv → T Dv := runF 3 3 q_strand_led
def q__law_strands_right : Sm :=
    (.seq (.par2 2 3 (.cons (.ot (mkO "Cloth" F_Cloth___init__) (.cons (.var 0) .nil)) (.cons (.ot (callO F__law_moved) (.cons (.var 0) (.cons (.var 1) .nil))) .nil)))
    (.seq (.asg (.ot (callO F__law_periods) (.cons (.var 3) .nil)) (.tup 2 (.cons (.nm 4) (.cons (.nm 5) .nil))))
    (.seq (parS 6 7 [.ex (.ot (callO F__law_spots) (.cons (.var 0) .nil)), .nt])
    (.seq (.for (.w1 wanyO (.var 6)) (.nm 8) (.seq (.asg (.ot (callO F__law_led) (.cons (.var 1) (.cons (.var 8) .nil))) (.tup 2 (.cons (.nm 9) (.cons (.nm 10) .nil))))
    (.seq (.asg (.on tupO (.cons (.var 9) (.cons (.o2 modO.o2 (.var 10) (.ifx (.tst (.o2 eqO.o2 (.var 9) (cS "end"))) (.var 5) (.var 4))) .nil))) (.nm 11))
    (.seq (.iff (.tst (.o2 neO.o2 (.on reprO (.cons (.on lstO (.cons (.ot (callO F_strand_led) (.cons (.var 2) (.cons (.var 1) (.cons (.var 8) .nil)))) (.cons (.ok (callKO F_strand_led (kwP 0 [2, 1, 0]) (kwP 0 [2, 1, 0]) (kwP_dt 0 [2, 1, 0])) .nil (.cons (.var 8) (.cons (.var 1) (.cons (.var 2) .nil)))) .nil))) .nil)) (.on reprO (.cons (.on lstO (.cons (.var 11) (.cons (.var 11) .nil))) .nil)))) (.ret (cB false)) .nx)
    (oputTS 7 (.var 8) (.var 11))))) [8, 9, 10, 11])
    (.frz 7 (.seq (.asg (.ot (mkO "Cloth" F_Cloth___init__) (.cons (.var 3) .nil)) (.nm 12))
    (.seq (.for (.w1 wanyO (.var 6)) (.nm 13) (.for (.w1 wanyO (.var 6)) (.nm 14) (.iff (.and (.tst (.o2 neO.o2 (.o2 ixO.o2 (.var 13) (cI 0)) (.o2 ixO.o2 (.var 14) (cI 0)))) (.tst (.o2 neO.o2 (.ot (callO F_is_over) (.cons (.var 2) (.cons (.var 13) (.cons (.var 14) .nil)))) (.ot (callO F_is_over) (.cons (.var 12) (.cons (ogetTE 7 (.var 13)) (.cons (ogetTE 7 (.var 14)) .nil))))))) (.iff (.or (.tst (.o2 ninO.o2 (cS "s") (.o2 ixO.o2 (.var 1) (cI 0)))) (.tst (.o2 neO.o2 (.ot (callO F_is_over) (.cons (.var 2) (.cons (.var 13) (.cons (.var 14) .nil)))) (.ot (callO F_is_over) (.cons (.var 12) (.cons (ogetTE 7 (.var 14)) (.cons (ogetTE 7 (.var 13)) .nil))))))) (.ret (cB false)) .nx) (.iff (.and (.tst (.o2 neO.o2 (.o2 ixO.o2 (.var 13) (cI 0)) (.o2 ixO.o2 (.var 14) (cI 0)))) (.tst (.o2 inO.o2 (cS "s") (.o2 ixO.o2 (.var 1) (cI 0))))) (.ret (cB false)) .nx)) [14]) [13, 14])
    (.ret (cB true)))))))))
def F__law_strands_right : List Dv → T Dv := runF 2 15 q__law_strands_right
def q_back_of : Sm :=
    (.seq (.asg (.var 0) (.tup 3 (.cons (.nm 1) (.cons (.nm 2) (.cons (.nm 3) .nil)))))
    (.seq (.asg (.ifx (.tst (.o2 inO.o2 (cS "p") (.var 1))) (.o1 negO (.var 2)) (.var 2)) (.nm 2))
    (.seq (.asg (.ifx (.tst (.o2 inO.o2 (cS "e") (.var 1))) (.o1 negO (.var 3)) (.var 3)) (.nm 3))
    (.seq (.iff (.tst (.o2 ninO.o2 (cS "w") (.var 1))) (.ret (.on tupO (.cons (.var 1) (.cons (.o1 negO (.var 2)) (.cons (.o1 negO (.var 3)) .nil))))) .nx)
    (.seq (.asg (.disp (.cons (cS "e") (.o2 inO.o2 (cS "p") (.var 1)) (.cons (cS "p") (.o2 inO.o2 (cS "e") (.var 1)) (.cons (cS "s") (.o2 inO.o2 (cS "s") (.var 1)) (.cons (cS "w") (cB true) .nil))))) (.nm 4))
    (.ret (.on tupO (.cons (.m2 joinO (cS "") (.lc (.w1 wanyO (cS "epsw")) (.nm 5) (.tru (.o2 dgetO (.var 4) (.var 5))) (.var 5))) (.cons (.o1 negO (.var 3)) (.cons (.o1 negO (.var 2)) .nil))))))))))
def F_back_of : List Dv → T Dv := runF 1 6 q_back_of
def q_turn_behind : Sm :=
    (.seq (.par2 2 3 (.cons (.o2 inO.o2 (cS "e") (.var 0)) (.cons (.o2 inO.o2 (cS "p") (.var 0)) .nil)))
    (.seq (.iff (.tst (.o2 inO.o2 (cS "w") (.var 1))) (.par2 2 3 (.cons (.var 3) (.cons (.var 2) .nil))) .nx)
    (.seq (.asg (.disp (.cons (cS "e") (.var 2) (.cons (cS "p") (.var 3) (.cons (cS "s") (.o2 inO.o2 (cS "s") (.var 0)) (.cons (cS "w") (.o2 inO.o2 (cS "w") (.var 0)) .nil))))) (.nm 4))
    (.ret (.m2 joinO (cS "") (.lc (.w1 wanyO (cS "epsw")) (.nm 5) (.tst (.o2 neO.o2 (.o2 dgetO (.var 4) (.var 5)) (.o2 inO.o2 (.var 5) (.var 1)))) (.var 5)))))))
def F_turn_behind : List Dv → T Dv := runF 2 6 q_turn_behind
def q_behind : Sm :=
    (.seq (.asg (.var 0) (.tup 3 (.cons (.nm 2) (.cons (.nm 3) (.cons (.nm 4) .nil)))))
    (.seq (.iff (.tst (.o2 inO.o2 (cS "w") (.o2 ixO.o2 (.var 1) (cI 0)))) (.par2 3 4 (.cons (.var 4) (.cons (.var 3) .nil))) .nx)
    (.seq (.iff (.tst (.o2 inO.o2 (cS "e") (.o2 ixO.o2 (.var 1) (cI 0)))) (.asg (.o1 negO (.var 4)) (.nm 4)) .nx)
    (.seq (.iff (.tst (.o2 inO.o2 (cS "p") (.o2 ixO.o2 (.var 1) (cI 0)))) (.asg (.o1 negO (.var 3)) (.nm 3)) .nx)
    (.ret (.on tupO (.cons (.ot (callO F_turn_behind) (.cons (.var 2) (.cons (.o2 ixO.o2 (.var 1) (cI 0)) .nil))) (.cons (.o2 addO.o2 (.var 3) (.o2 ixO.o2 (.var 1) (cI 1))) (.cons (.o2 addO.o2 (.var 4) (.o2 ixO.o2 (.var 1) (cI 2))) .nil)))))))))
def F_behind : List Dv → T Dv := runF 2 5 q_behind
def q_moved_picks : Sm :=
    (.seq (.asg (.var 1) (.tup 3 (.cons (.nm 2) (.cons (.nm 3) (.cons (.nm 4) .nil)))))
    (.seq (.asg (.on tupO (.cons (.on lenO (.cons (.var 0) .nil)) (.cons (.on lenO (.cons (.o2 ixO.o2 (.var 0) (cI 0)) .nil)) .nil))) (.nm 5))
    (.seq (.asg (.ifx (.tst (.o2 inO.o2 (cS "w") (.var 2))) (.o1 revO (.var 5)) (.var 5)) (.tup 2 (.cons (.nm 6) (.cons (.nm 7) .nil))))
    (.seq (.asg (.o2 neO.o2 (.o2 inO.o2 (cS "s") (.var 2)) (.o2 inO.o2 (cS "w") (.var 2))) (.nm 8))
    (.seq (.newL 9 .nil)
    (.seq (.for (.wn rng1O (.cons (.var 6) .nil)) (.nm 10) (.seq (.newL 11 .nil)
    (.seq (.asg (.ifx (.tst (.o2 inO.o2 (cS "p") (.var 2))) (.o2 subO.o2 (.var 3) (.var 10)) (.o2 subO.o2 (.var 10) (.var 3))) (.nm 12))
    (.seq (.for (.wn rng1O (.cons (.var 7) .nil)) (.nm 13) (.seq (.asg (.ifx (.tst (.o2 inO.o2 (cS "e") (.var 2))) (.o2 subO.o2 (.var 4) (.var 13)) (.o2 subO.o2 (.var 13) (.var 4))) (.nm 14))
    (.seq (.asg (.ifx (.tst (.o2 inO.o2 (cS "w") (.var 2))) (.on tupO (.cons (.var 14) (.cons (.var 12) .nil))) (.on tupO (.cons (.var 12) (.cons (.var 14) .nil)))) (.nm 15))
    (.seq (.asg (.o2 ixO.o2 (.o2 ixO.o2 (.var 0) (.o2 modO.o2 (.o2 ixO.o2 (.var 15) (cI 0)) (.o2 ixO.o2 (.var 5) (cI 0)))) (.o2 modO.o2 (.o2 ixO.o2 (.var 15) (cI 1)) (.o2 ixO.o2 (.var 5) (cI 1)))) (.nm 16))
    (.app 11 (.ifx (.tru (.var 8)) (.o1 (kgetO tab_OPPOSITE) (.var 16)) (.var 16)))))) [13, 14, 15, 16])
    (.app 9 (.bor 11 (.m2 joinO (cS "") (.var 11))))))) [10, 11, 12, 13, 14, 15, 16])
    (.frz 9 (.ret (.on tupleO (.cons (.var 9) .nil))))))))))
def F_moved_picks : List Dv → T Dv := runF 2 17 q_moved_picks
def q_moved : Sm :=
    (.ret (.ot (mkO "Cloth" F_Cloth___init__) (.cons (.ot (callO F_moved_picks) (.cons (.o1 (fldO "picks") (.var 0)) (.cons (.var 1) .nil))) .nil)))
def F_moved : List Dv → T Dv := runF 2 2 q_moved
def q__law_right : Sm :=
    (.seq (.par2 3 4 (.cons (.ot (mkO "Cloth" F_Cloth___init__) (.cons (.var 0) .nil)) (.cons (.ot (callO F__law_moved) (.cons (.var 0) (.cons (.var 1) .nil))) .nil)))
    (.seq (.asg (.on lstO (.cons (.o1 (fldO "picks") (.ot (callO F_moved) (.cons (.var 3) (.cons (.var 1) .nil)))) (.cons (.o1 (fldO "picks") (.ok (callKO F_moved (kwP 0 [1, 0]) (kwP 0 [1, 0]) (kwP_dt 0 [1, 0])) .nil (.cons (.var 1) (.cons (.var 3) .nil)))) .nil))) (.nm 5))
    (.seq (.iff (.or (.tst (.o2 neO.o2 (.on reprO (.cons (.var 5) .nil)) (.on reprO (.cons (.on lstO (.cons (.var 4) (.cons (.var 4) .nil))) .nil)))) (.not (.tst (eqiE "Cloth" F_Cloth___eq__ (.ot (callO F_moved) (.cons (.ot (callO F_moved) (.cons (.var 3) (.cons (.var 1) .nil))) (.cons (.ot (callO F_back_of) (.cons (.var 1) .nil)) .nil))) (.var 3))))) (.ret (cB false)) .nx)
    (.seq (.asg (.ot (callO F_moved) (.cons (.ot (callO F_moved) (.cons (.var 3) (.cons (.var 1) .nil))) (.cons (.var 2) .nil))) (.nm 6))
    (.seq (.iff (.or (.not (.tst (eqiE "Cloth" F_Cloth___eq__ (.var 6) (.ot (callO F_moved) (.cons (.var 3) (.cons (.ot (callO F_behind) (.cons (.var 1) (.cons (.var 2) .nil))) .nil)))))) (.tst (.o2 neO.o2 (.o1 (fldO "picks") (.var 6)) (.ot (callO F__law_moved) (.cons (.var 4) (.cons (.var 2) .nil)))))) (.ret (cB false)) .nx)
    (.ret (.and (.o2 eqO.o2 (.on reprO (.cons (.o1 (fldO "picks") (.var 3)) .nil)) (.on reprO (.cons (.var 0) .nil))) (.ot (callO F__law_strands_right) (.cons (.var 0) (.cons (.var 1) .nil))))))))))
def F__law_right : List Dv → T Dv := runF 3 7 q__law_right
def q_law : Sm :=
    (.seq (.for (.wn rng1O (.cons (cI 4) .nil)) (.nm 2) (.seq (.asg (.ot (callO F__law_cloth) (.cons (.var 1) (.cons (cI 5) (.cons (cI 5) .nil)))) (.nm 3))
    (.iff (.not (.tb (.ot (callO F__law_right) (.cons (.var 3) (.cons (.ot (callO F__law_motion) (.cons (.var 1) .nil)) (.cons (.ot (callO F__law_motion) (.cons (.var 1) .nil)) .nil)))))) (.ret (cB false)) .nx)) [2, 3])
    (.seq (.asg (.ot (mkO "Cloth" F_Cloth___init__) (.cons (.on tupO (.cons (cS "xx") (.cons (cS "-x") .nil))) .nil)) (.nm 4))
    (.ret (.o2 eqO.o2 (.on lstO (.cons (.o1 (fldO "picks") (.ot (callO F_moved) (.cons (.var 4) (.cons (.on tupO (.cons (cS "w") (.cons (cI 0) (.cons (cI 0) .nil)))) .nil)))) (.cons (.ot (callO F_strand_led) (.cons (.var 4) (.cons (.on tupO (.cons (cS "sw") (.cons (cI 1) (.cons (cI 1) .nil)))) (.cons (.on tupO (.cons (cS "end") (.cons (cI 0) .nil))) .nil)))) .nil))) (.on lstO (.cons (.on tupO (.cons (cS "-x") (.cons (cS "--") .nil))) (.cons (.on tupO (.cons (cS "pick") (.cons (cI 1) .nil))) .nil)))))))
def F_law : T Dv := runL "blend" 5 q_law
end K60

set_option Elab.async false
set_option linter.all false
set_option maxRecDepth 100000
set_option maxHeartbeats 4000000
namespace K60
open PySem PySem.Spec L2 DL
def topS (i : Nat) : Stmt := PySem.Challenge.pw_loomhold_k60_cloths_and_strands_moved.main.body.getD i (.Pass ⟨0, 0, 0, 0⟩)
structure Txt (K : PySem.W.Frag) (w : World) (mg : Str → Option Value) : Prop where
  n_all : mg "all" = none
  n_enumerate : mg "enumerate" = none
  n_int : mg "int" = none
  n_isinstance : mg "isinstance" = none
  n_len : mg "len" = none
  n_list : mg "list" = none
  n_range : mg "range" = none
  n_repr : mg "repr" = none
  n_sorted : mg "sorted" = none
  n_str : mg "str" = none
  n_sum : mg "sum" = none
  n_tuple : mg "tuple" = none
  c_ABOVE : ∃ t, mg "ABOVE" = some (.str "x" t)
  c_BELOW : ∃ t, mg "BELOW" = some (.str "-" t)
  c_END : ∃ t, mg "END" = some (.str "end" t)
  c_LETTERS : ∃ t, mg "LETTERS" = some (.str "epsw" t)
  c_PICK : ∃ t, mg "PICK" = some (.str "pick" t)
  k_OPPOSITE : ∃ d, mg "OPPOSITE" = some (.ref d) ∧ KTab K w d tab_OPPOSITE
  k_OTHER : ∃ d, mg "OTHER" = some (.ref d) ∧ KTab K w d tab_OTHER
  x_Cloth : ∃ C, mg "Cloth" = some (.ref C) ∧ IsiC K C
local macro_rules | `(tactic| walk_at "rd") => `(tactic| simp only [rx_con, rx_var, rx_add, rx_sub, rx_mul, rx_fdiv, rx_mod, rx_pow, rx_ix, rx_eq, rx_ne, rx_cmp, rx_in, rx_nin, rx_neg, rx_not, rx_isN, rx_nisN, rx_rev, rx_sortSet, rx_fld, rx_ofld, rx_isC, rx_isi, rx_kget, rx_kin, rx_knin, rx_dget, rx_getV, rx_has, rx_hasN, rx_ogetT, rx_ohas, rx_ohasN, rx_join, rx_tup, rx_lst, rx_dnew, rx_len, rx_int, rx_str, rx_list, rx_tuple, rx_sum, rx_all, rx_repr, rx_sortedS, rx_abs, rx_max2, rx_min2, rx_call, rx_mk, rx_callK, rx_meth, rx_eqi, rx_and, rx_or, rx_ifx, rx_chain, rx_sl, rx_lc, rl_nm, rl_tup, rl_unl, rl_nil, rl_cons, rl_app, rl_app0, rx_disp, rx_bor, rx_oix, rx_oget, rr_eq, rr_ne, rr_cmp, rr_in, rr_nin, ra_nil, ra_cons, rt_tst, rt_tb, rt_tru, rt_not, rt_and, rt_or, rt_yes, rt_bor, ro_non, ro_som, rw_any, rw_rng1, rw_rng2, rw_enum, rp_nil, rp_cons, rg_nm, rg_tup, rg_unl, rg_nil, rg_cons, rs_seq, rs_nx, rs_brk, rs_cnt, rs_ret, rs_retN, rs_iff, rs_for, rs_whl, rs_asg, rs_par2, rs_par3, rs_drop, rs_newL, rs_newD, rs_app, rs_ext, rs_pop0, rs_pop, rs_oset, rs_oput, rs_frz, rs_fgt, rs_fset, rs_newT, rs_oputT, rs_never, rs_parS, rs_par3S, ri_nil, ri_ex, ri_nl, ri_nd, ri_nt])

section
variable {P : Program} {w : World} {K : PySem.W.Frag} {mg : Str → Option Value} {base : Heap}
abbrev s_is_pick : Stmt := topS 8
theorem sc_is_pick : FnScope ["thing", "sign"] ["thing"] (defScope s_is_pick) := ⟨rfl, rfl, rfl, by decide +kernel, rfl, by decide +kernel, by decide +kernel⟩
theorem d_is_pick (T : Txt K w mg) {f : Addr} {cdv : Value} {A : Around} {outer : List PySem.Env} {s : Shared} {H : Hp} {E : XK} (hgd : A.guards = some []) (hr : Room 0 (A.deeper (PyProof.Rows.envOfC "is_pick" (defScope s_is_pick) s.heap.objs.size f cdv))) :
    PSs (cxOf CX0 P w K mg base ["thing", "sign"] "is_pick" (defScope s_is_pick) f cdv A outer s H E).nox (defBody s_is_pick) (rdS ⟨K, mg⟩ q_is_pick) := by
  unfold q_is_pick
  walk_at "rd"
  exact (pss_one (ps_ret (pe_and (pe_callB call_isi (by rfl) T.n_isinstance (by decide +kernel) (pa_cons (pv 0) (pa_cons (pe_bltn (v := .ty "str") (by rfl) T.n_str (by decide +kernel) rfl) pa_nil))) (pe_and (pe_cmpR (op_neV hr.units) (pv 0) pe_str (nomark _)) (pe_one (pe_callB (cr_all rfl) (by rfl) T.n_all (by decide +kernel) (pa_cons (pe_lc (own := [("sign", 1)]) rfl sc_is_pick.nd (pi_any (pv 0)) (blkOk_by (N := ["thing", "sign"]) (sc := defScope s_is_pick) (by decide +kernel)) (fun _ _ _ _ _ => (pg_name (i := 1) sc_is_pick.nd rfl (by first | exact .inl rfl | exact .inr rfl))) (fun _ _ _ _ _ => pts_nil) (fun _ _ _ _ _ => (pe_kin1 T.k_OTHER.choose_spec.1 (pe_cmpR (op_kin T.k_OTHER.choose_spec.2) (pv 1) (pe_glob (v := .ref T.k_OTHER.choose) (by rfl) T.k_OTHER.choose_spec.1 rfl) rfl)))) pa_nil)))))))
abbrev s_Cloth___init__ : Stmt := inClass (topS 9) 0
theorem sc_Cloth___init__ : FnScope ["self", "picks", "number", "pick"] ["self", "picks"] (defScope s_Cloth___init__) := ⟨rfl, rfl, rfl, by decide +kernel, rfl, by decide +kernel, by decide +kernel⟩
theorem d_Cloth___init__ (T : Txt K w mg) {f_is_pick : Addr} {fd_is_pick : FuncData} (D_is_pick : Df P w K mg base 1 "is_pick" ["thing"] (ctF F_is_pick) f_is_pick fd_is_pick) {f : Addr} {cdv : Value} {A : Around} {outer : List PySem.Env} {s : Shared} {H : Hp} {E : XK} (hgd : A.guards = some []) (hr : Room 1 (A.deeper (PyProof.Rows.envOfC "Cloth.__init__" (defScope s_Cloth___init__) s.heap.objs.size f cdv))) :
    PSs (cxOf CX0 P w K mg base ["self", "picks", "number", "pick"] "Cloth.__init__" (defScope s_Cloth___init__) f cdv A outer s H E).nox (defBody s_Cloth___init__) (rdS ⟨K, mg⟩ q_Cloth___init__) := by
  unfold q_Cloth___init__
  walk_at "rd"
  exact (pss_cons (ps_if (PW.pt (pw_or (pt_not (pt_val (pe_callB call_isi (by rfl) T.n_isinstance (by decide +kernel) (pa_cons (pv 1) (pa_cons (pe_bltn (v := .ty "tuple") (by rfl) T.n_tuple (by decide +kernel) rfl) pa_nil))))) (pw_or1 (pt_cmpR (op_eqW hr.units) (pv 1) (pe_tup pa_nil) (nomark _))))) (pss_one DL.ps_never) pss_nil)
      (pss_cons (ps_for PassesOwn.never rfl (pi_enumA rfl T.n_enumerate (pa_cons (pv 1) pa_nil)) (pg_tup rfl (pgs_cons (pg_name (i := 2) sc_Cloth___init__.nd rfl (by first | exact .inl rfl | exact .inr rfl)) (pgs_cons (pg_name (i := 3) sc_Cloth___init__.nd rfl (by first | exact .inl rfl | exact .inr rfl)) pgs_nil))) (pss_one (ps_if (PW.pt (pw_or (pt_not (pt_val (pe_df D_is_pick hgd (hr.mono (by decide)) (by rfl) (pa_cons (pv 3) pa_nil)))) (pw_or1 (pt_cmpR (op_neV hr.units) (pe_callB call_len (by rfl) T.n_len (by decide +kernel) (pa_cons (pv 3) pa_nil)) (pe_callB call_len (by rfl) T.n_len (by decide +kernel) (pa_cons (pe_ix ix_seq (pv 1) pe_int (fun _ _ => rfl)) pa_nil)) (nomark _))))) (pss_one DL.ps_never) pss_nil)))
      (pss_cons (ps_fld (pv 0) (pv 1) rfl)
      (pss_one (ps_fld (pv 0) (pe_callB call_len (by rfl) T.n_len (by decide +kernel) (pa_cons (pe_ix ix_seq (pv 1) pe_int (fun _ _ => rfl)) pa_nil)) rfl)))))
abbrev s__law_draw : Stmt := topS 27
theorem sc__law_draw : FnScope ["_law_deck_here", "_law_below", "_law_turn", "_law_made", "_law_cell"] ["_law_deck_here", "_law_below"] (defScope s__law_draw) := ⟨rfl, rfl, rfl, by decide +kernel, rfl, by decide +kernel, by decide +kernel⟩
def t__law_draw (K : PySem.W.Frag) : TS :=
    (tSeq (sDPut (tVar 0) (tC (.str "draws")) (tOp (rAddV K) (tDGet (tVar 0) (tC (.str "draws"))) (tC (.int 1))))
    (tSeq (tPar 2 3 (tCons (tDGet (tVar 0) (tC (.str "draws"))) (tCons (tDGet (tVar 0) (tC (.str "blend"))) tNil)))
    (tSeq (tIfS (tTest (tOp (rEqV K true) (tDGet (tVar 0) (tC (.str "cells"))) (tLst tNil))) (tSeq (tAsg (tBM0 K "list" rPop (tDGet (tVar 0) (tC (.str "cells")))) (gName 4))
    (tSeq (tIfS (tTest (tOp (rCmpU (fun i j => decide (j ≤ i)) fun a b => !decide (a < b)) (tVar 4) (tOp (rI CPow fun i j => .int (i ^ j.toNat)) (tC (.int 10)) (tC (.int 18))))) (tSeq (tDrop (tBM K "list" rAppend (tDGet (tVar 0) (tC (.str "cells"))) (tCons (tOp (rI CDiv fun i j => .int (i / j)) (tVar 4) (tVar 1)) tNil)))
    (tRet (tOp (rI (fun _ j => 0 < j) fun i j => .int (i % j)) (tCB (fun xs H Q => (∃ i, xs = [.int i] ∧ Q (.int i) H) ∨ ∃ k, xs = [.bl k] ∧ Q (.int (if k then 1 else 0)) H) (tCons (tVar 4) tNil)) (tVar 1)))) tNext)
    (tAsg (tOp (rAddV K) (tVar 3) (tOp (rI (fun _ j => 0 < j) fun i j => .int (i % j)) (tCB (fun xs H Q => (∃ i, xs = [.int i] ∧ Q (.int i) H) ∨ ∃ k, xs = [.bl k] ∧ Q (.int (if k then 1 else 0)) H) (tCons (tVar 4) tNil)) (tC (.int 2147483629)))) (gName 3)))) tNext)
    (tSeq (tAsg (tOp (rI (fun _ j => 0 < j) fun i j => .int (i % j)) (tCB (fun xs H Q => (∃ i, xs = [.int i] ∧ Q (.int i) H) ∨ ∃ k, xs = [.bl k] ∧ Q (.int (if k then 1 else 0)) H) (tCons (tOp (rAddV K) (tOp (rAddV K) (tVar 3) (tOp rMulU (tOp rMulU (tC (.int 60497)) (tVar 2)) (tVar 2))) (tC (.int 560))) tNil)) (tC (.int 2147483629))) (gName 3))
    (tSeq (tAsg (tOp (rI (fun _ j => 0 < j) fun i j => .int (i % j)) (tCB (fun xs H Q => (∃ i, xs = [.int i] ∧ Q (.int i) H) ∨ ∃ k, xs = [.bl k] ∧ Q (.int (if k then 1 else 0)) H) (tCons (tOp rMulU (tVar 3) (tC (.int 40692))) tNil)) (tC (.int 2147483647))) (gName 3))
    (tSeq (tAsg (tOp (rI (fun _ j => 0 < j) fun i j => .int (i % j)) (tCB (fun xs H Q => (∃ i, xs = [.int i] ∧ Q (.int i) H) ∨ ∃ k, xs = [.bl k] ∧ Q (.int (if k then 1 else 0)) H) (tCons (tOp (rAddV K) (tOp (rAddV K) (tOp rMulU (tVar 3) (tVar 3)) (tOp rMulU (tC (.int 69621)) (tVar 2))) (tC (.int 568))) tNil)) (tC (.int 2147483587))) (gName 3))
    (tRet (tOp (rI (fun _ j => 0 < j) fun i j => .int (i % j)) (tOp (rI CDiv fun i j => .int (i / j)) (tOp (rI (fun _ j => 0 < j) fun i j => .int (i % j)) (tCB (fun xs H Q => (∃ i, xs = [.int i] ∧ Q (.int i) H) ∨ ∃ k, xs = [.bl k] ∧ Q (.int (if k then 1 else 0)) H) (tCons (tOp rMulU (tVar 3) (tC (.int 39373))) tNil)) (tC (.int 2147483563))) (tC (.int 64))) (tVar 1)))))))))
theorem d__law_draw (T : Txt K w mg) {f : Addr} {cdv : Value} {A : Around} {outer : List PySem.Env} {s : Shared} {H : Hp} {E : XK} (hgd : A.guards = some []) (hr : Room 0 (A.deeper (PyProof.Rows.envOfC "_law_draw" (defScope s__law_draw) s.heap.objs.size f cdv))) :
    PSs (cxOf CX0 P w K mg base ["_law_deck_here", "_law_below", "_law_turn", "_law_made", "_law_cell"] "_law_draw" (defScope s__law_draw) f cdv A outer s H E).nox (defBody s__law_draw) (t__law_draw K) := by
  skip
  exact (pss_cons (ps_dput (hu_of hr) (pv 0) pe_str (pe_op op_addV (pe_dget (hu_of hr) (pv 0) pe_str (fun _ _ => rfl)) pe_int) rfl)
      (pss_cons (ps_par (by rfl) sc__law_draw.nd rfl rfl (by decide) rfl rfl (pa_cons (pe_dget (hu_of hr) (pv 0) pe_str (fun _ _ => rfl)) (pa_cons (pe_dget (hu_of hr) (pv 0) pe_str (fun _ _ => rfl)) pa_nil)) (by rfl))
      (pss_cons (ps_if (pt_cmpR (op_neV hr.units) (pe_dget (hu_of hr) (pv 0) pe_str (fun _ _ => rfl)) (pe_lst pa_nil) (nomark _)) (pss_cons (ps_set (i := 4) sc__law_draw.nd rfl (by first | exact .inl rfl | exact .inr rfl) (pe_bm0 PySem.F.plainAttrs_list PySem.F.slot_list_pop PySem.F.type_list_pop mt_pop (pe_dget (hu_of hr) (pv 0) pe_str (fun _ _ => rfl))))
      (pss_cons (ps_if (pt_cmpR op_geU (pv 4) (pe_op op_pow pe_int pe_int) (nomark _)) (pss_cons (ps_expr (pe_bm PySem.F.plainAttrs_list PySem.F.slot_list_append PySem.F.type_list_append mt_append (pe_dget (hu_of hr) (pv 0) pe_str (fun _ _ => rfl)) (pa_cons (pe_op op_fdiv (pv 4) (pv 1)) pa_nil)))
      (pss_one (ps_ret (pe_op op_mod (pe_callTy call_int1 (by rfl) T.n_int (by decide +kernel) (pa_cons (pv 4) pa_nil)) (pv 1))))) pss_nil)
      (pss_one (ps_set (i := 3) sc__law_draw.nd rfl (by first | exact .inl rfl | exact .inr rfl) (pe_op op_addV (pv 3) (pe_op op_mod (pe_callTy call_int1 (by rfl) T.n_int (by decide +kernel) (pa_cons (pv 4) pa_nil)) pe_int)))))) pss_nil)
      (pss_cons (ps_set (i := 3) sc__law_draw.nd rfl (by first | exact .inl rfl | exact .inr rfl) (pe_op op_mod (pe_callTy call_int1 (by rfl) T.n_int (by decide +kernel) (pa_cons (pe_op op_addV (pe_op op_addV (pv 3) (pe_op op_mulU (pe_op op_mulU pe_int (pv 2)) (pv 2))) pe_int) pa_nil)) pe_int))
      (pss_cons (ps_set (i := 3) sc__law_draw.nd rfl (by first | exact .inl rfl | exact .inr rfl) (pe_op op_mod (pe_callTy call_int1 (by rfl) T.n_int (by decide +kernel) (pa_cons (pe_op op_mulU (pv 3) pe_int) pa_nil)) pe_int))
      (pss_cons (ps_set (i := 3) sc__law_draw.nd rfl (by first | exact .inl rfl | exact .inr rfl) (pe_op op_mod (pe_callTy call_int1 (by rfl) T.n_int (by decide +kernel) (pa_cons (pe_op op_addV (pe_op op_addV (pe_op op_mulU (pv 3) (pv 3)) (pe_op op_mulU pe_int (pv 2))) pe_int) pa_nil)) pe_int))
      (pss_one (ps_ret (pe_op op_mod (pe_op op_fdiv (pe_op op_mod (pe_callTy call_int1 (by rfl) T.n_int (by decide +kernel) (pa_cons (pe_op op_mulU (pv 3) pe_int) pa_nil)) pe_int) pe_int) (pv 1))))))))))
abbrev s__law_pick : Stmt := topS 28
theorem sc__law_pick : FnScope ["_law_deck_here", "_law_some"] ["_law_deck_here", "_law_some"] (defScope s__law_pick) := ⟨rfl, rfl, rfl, by decide +kernel, rfl, by decide +kernel, by decide +kernel⟩
theorem d__law_pick (T : Txt K w mg) {f__law_draw : Addr} {fd__law_draw : FuncData} (D__law_draw : Df P w K mg base 1 "_law_draw" ["_law_deck_here", "_law_below"] (ctF F__law_draw) f__law_draw fd__law_draw) {f : Addr} {cdv : Value} {A : Around} {outer : List PySem.Env} {s : Shared} {H : Hp} {E : XK} (hgd : A.guards = some []) (hr : Room 1 (A.deeper (PyProof.Rows.envOfC "_law_pick" (defScope s__law_pick) s.heap.objs.size f cdv))) :
    PSs (cxOf CX0 P w K mg base ["_law_deck_here", "_law_some"] "_law_pick" (defScope s__law_pick) f cdv A outer s H E).nox (defBody s__law_pick) (rdS ⟨K, mg⟩ q__law_pick) := by
  unfold q__law_pick
  walk_at "rd"
  exact (pss_one (ps_ret (pe_ix ix_seq (pv 1) (pe_df D__law_draw hgd (hr.mono (by decide)) (by rfl) (pa_cons (pv 0) (pa_cons (pe_callB call_len (by rfl) T.n_len (by decide +kernel) (pa_cons (pv 1) pa_nil)) pa_nil))) (fun _ _ => rfl))))
abbrev s__law_cloth : Stmt := topS 35
theorem sc__law_cloth : FnScope ["_law_deck_here", "_law_tall", "_law_broad", "_law_many", "_law_size", "_law_way", "_law_near", "_law_far", "_law_low", "_law_edge", "_law_rows", "_law_often", "_law_block", "_law_lines", "_law_i", "_law_row", "_law_j"] ["_law_deck_here", "_law_tall", "_law_broad"] (defScope s__law_cloth) := ⟨rfl, rfl, rfl, by decide +kernel, rfl, by decide +kernel, by decide +kernel⟩
theorem d__law_cloth (T : Txt K w mg) {f__law_draw : Addr} {fd__law_draw : FuncData} (D__law_draw : Df P w K mg base 1 "_law_draw" ["_law_deck_here", "_law_below"] (ctF F__law_draw) f__law_draw fd__law_draw) {f__law_pick : Addr} {fd__law_pick : FuncData} (D__law_pick : Df P w K mg base 2 "_law_pick" ["_law_deck_here", "_law_some"] (ctF F__law_pick) f__law_pick fd__law_pick) {f : Addr} {cdv : Value} {A : Around} {outer : List PySem.Env} {s : Shared} {H : Hp} {E : XK} (hgd : A.guards = some []) (hr : Room 2 (A.deeper (PyProof.Rows.envOfC "_law_cloth" (defScope s__law_cloth) s.heap.objs.size f cdv))) :
    PSs (cxOf CX0 P w K mg base ["_law_deck_here", "_law_tall", "_law_broad", "_law_many", "_law_size", "_law_way", "_law_near", "_law_far", "_law_low", "_law_edge", "_law_rows", "_law_often", "_law_block", "_law_lines", "_law_i", "_law_row", "_law_j"] "_law_cloth" (defScope s__law_cloth) f cdv A outer s H E).nox (defBody s__law_cloth) (rdS ⟨K, mg⟩ q__law_cloth) := by
  unfold q__law_cloth
  walk_at "rd"
  exact (pss_cons (ps_asg (pe_tup (pa_cons (pe_op op_addV pe_int (pe_df D__law_draw hgd (hr.mono (by decide)) (by rfl) (pa_cons (pv 0) (pa_cons (pv 1) pa_nil)))) (pa_cons (pe_op op_addV pe_int (pe_df D__law_draw hgd (hr.mono (by decide)) (by rfl) (pa_cons (pv 0) (pa_cons (pv 2) pa_nil)))) (pa_cons (pe_df D__law_draw hgd (hr.mono (by decide)) (by rfl) (pa_cons (pv 0) (pa_cons pe_int pa_nil))) pa_nil)))) (pg_tup rfl (pgs_cons (pg_name (i := 3) sc__law_cloth.nd rfl (by first | exact .inl rfl | exact .inr rfl)) (pgs_cons (pg_name (i := 4) sc__law_cloth.nd rfl (by first | exact .inl rfl | exact .inr rfl)) (pgs_cons (pg_name (i := 5) sc__law_cloth.nd rfl (by first | exact .inl rfl | exact .inr rfl)) pgs_nil)))))
      (pss_cons (ps_if (pt_cmpR (op_eqW hr.units) (pv 5) pe_int (nomark _)) (pss_cons (ps_asg (pe_tup (pa_cons (pe_op op_addV pe_int (pe_df D__law_draw hgd (hr.mono (by decide)) (by rfl) (pa_cons (pv 0) (pa_cons pe_int pa_nil)))) (pa_cons (pe_op op_addV pe_int (pe_df D__law_draw hgd (hr.mono (by decide)) (by rfl) (pa_cons (pv 0) (pa_cons pe_int pa_nil)))) (pa_cons (pe_op op_addV pe_int (pe_df D__law_draw hgd (hr.mono (by decide)) (by rfl) (pa_cons (pv 0) (pa_cons pe_int pa_nil)))) pa_nil)))) (pg_tup rfl (pgs_cons (pg_name (i := 6) sc__law_cloth.nd rfl (by first | exact .inl rfl | exact .inr rfl)) (pgs_cons (pg_name (i := 7) sc__law_cloth.nd rfl (by first | exact .inl rfl | exact .inr rfl)) (pgs_cons (pg_name (i := 8) sc__law_cloth.nd rfl (by first | exact .inl rfl | exact .inr rfl)) pgs_nil)))))
      (pss_cons (ps_set (i := 9) sc__law_cloth.nd rfl (by first | exact .inl rfl | exact .inr rfl) (pe_op op_addV pe_int (pe_df D__law_draw hgd (hr.mono (by decide)) (by rfl) (pa_cons (pv 0) (pa_cons (pe_op op_subV (pv 8) pe_int) pa_nil)))))
      (pss_one (ps_setLc (i := 10) (own := [("_law_i", 14)]) rfl sc__law_cloth.nd rfl rfl (sw_true rfl rfl rfl (by decide +kernel)) (pi_range1 rfl T.n_range (pa_cons (pv 3) pa_nil)) (blkOk_by (N := ["_law_deck_here", "_law_tall", "_law_broad", "_law_many", "_law_size", "_law_way", "_law_near", "_law_far", "_law_low", "_law_edge", "_law_rows", "_law_often", "_law_block", "_law_lines", "_law_i", "_law_row", "_law_j"]) (sc := defScope s__law_cloth) (by decide +kernel)) (fun _ _ _ _ _ => (pg_name (i := 14) sc__law_cloth.nd rfl (by first | exact .inl rfl | exact .inr rfl))) (fun _ _ _ _ _ => pts_nil) (fun _ _ _ _ _ => (pe_lc (own := [("_law_j", 16)]) rfl sc__law_cloth.nd (pi_range1 rfl T.n_range (pa_cons (pv 4) pa_nil)) (blkOk_by (by rfl)) (fun _ _ _ _ _ => (pg_name (i := 16) sc__law_cloth.nd rfl (by first | exact .inl rfl | exact .inr rfl))) (fun _ _ _ _ _ => pts_nil) (fun _ _ _ _ _ => (pe_ix ix_seq pe_str (pe_callTy call_int1 (by rfl) T.n_int (by decide +kernel) (pa_cons (pe_cmpR op_ltU (pe_op op_mod (pe_op op_addV (pe_op op_mulU (pv 14) (pv 6)) (pe_op op_mulU (pv 16) (pv 7))) (pv 8)) (pv 9) (nomark _)) pa_nil)) (fun _ _ => rfl))))))))) (pss_cons (ps_set (i := 11) sc__law_cloth.nd rfl (by first | exact .inl rfl | exact .inr rfl) (pe_df D__law_pick hgd (hr.mono (by decide)) (by rfl) (pa_cons (pv 0) (pa_cons (pe_lst (pa_cons pe_int (pa_cons pe_int (pa_cons pe_int (pa_cons pe_int pa_nil))))) pa_nil))))
      (pss_cons (ps_set (i := 12) sc__law_cloth.nd rfl (by first | exact .inl rfl | exact .inr rfl) (pe_ifExp (pt_cmpR (op_eqW hr.units) (pv 5) pe_int (nomark _)) (pe_lst (pa_cons (pe_op op_addV pe_int (pe_df D__law_draw hgd (hr.mono (by decide)) (by rfl) (pa_cons (pv 0) (pa_cons (pv 3) pa_nil)))) (pa_cons (pe_op op_addV pe_int (pe_df D__law_draw hgd (hr.mono (by decide)) (by rfl) (pa_cons (pv 0) (pa_cons (pv 4) pa_nil)))) pa_nil))) (pe_lst (pa_cons (pv 3) (pa_cons (pv 4) pa_nil)))))
      (pss_cons (ps_set (i := 13) sc__law_cloth.nd rfl (by first | exact .inl rfl | exact .inr rfl) (pe_lc (own := [("_law_i", 14)]) rfl sc__law_cloth.nd (pi_range1 rfl T.n_range (pa_cons (pe_ix ix_seq (pv 12) pe_int (fun _ _ => rfl)) pa_nil)) (blkOk_by (N := ["_law_deck_here", "_law_tall", "_law_broad", "_law_many", "_law_size", "_law_way", "_law_near", "_law_far", "_law_low", "_law_edge", "_law_rows", "_law_often", "_law_block", "_law_lines", "_law_i", "_law_row", "_law_j"]) (sc := defScope s__law_cloth) (by decide +kernel)) (fun _ _ _ _ _ => (pg_name (i := 14) sc__law_cloth.nd rfl (by first | exact .inl rfl | exact .inr rfl))) (fun _ _ _ _ _ => pts_nil) (fun _ _ _ _ _ => (pe_lc (own := [("_law_j", 16)]) rfl sc__law_cloth.nd (pi_range1 rfl T.n_range (pa_cons (pe_ix ix_seq (pv 12) pe_int (fun _ _ => rfl)) pa_nil)) (blkOk_by (by rfl)) (fun _ _ _ _ _ => (pg_name (i := 16) sc__law_cloth.nd rfl (by first | exact .inl rfl | exact .inr rfl))) (fun _ _ _ _ _ => pts_nil) (fun _ _ _ _ _ => (pe_ix ix_seq pe_str (pe_callTy call_int1 (by rfl) T.n_int (by decide +kernel) (pa_cons (pe_cmpR op_gtU (pe_df D__law_draw hgd (hr.mono (by decide)) (by rfl) (pa_cons (pv 0) (pa_cons (pv 11) pa_nil))) pe_int (nomark _)) pa_nil)) (fun _ _ => rfl)))))))
      (pss_one (ps_setLc (i := 10) (own := [("_law_i", 14)]) rfl sc__law_cloth.nd rfl rfl (sw_true rfl rfl rfl (by decide +kernel)) (pi_range1 rfl T.n_range (pa_cons (pv 3) pa_nil)) (blkOk_by (N := ["_law_deck_here", "_law_tall", "_law_broad", "_law_many", "_law_size", "_law_way", "_law_near", "_law_far", "_law_low", "_law_edge", "_law_rows", "_law_often", "_law_block", "_law_lines", "_law_i", "_law_row", "_law_j"]) (sc := defScope s__law_cloth) (by decide +kernel)) (fun _ _ _ _ _ => (pg_name (i := 14) sc__law_cloth.nd rfl (by first | exact .inl rfl | exact .inr rfl))) (fun _ _ _ _ _ => pts_nil) (fun _ _ _ _ _ => (pe_lc (own := [("_law_j", 16)]) rfl sc__law_cloth.nd (pi_range1 rfl T.n_range (pa_cons (pv 4) pa_nil)) (blkOk_by (by rfl)) (fun _ _ _ _ _ => (pg_name (i := 16) sc__law_cloth.nd rfl (by first | exact .inl rfl | exact .inr rfl))) (fun _ _ _ _ _ => pts_nil) (fun _ _ _ _ _ => (pe_ix ix_seq (pe_ix ix_seq (pv 13) (pe_op op_mod (pv 14) (pe_ix ix_seq (pv 12) pe_int (fun _ _ => rfl))) (fun _ _ => rfl)) (pe_op op_mod (pv 16) (pe_ix ix_seq (pv 12) pe_int (fun _ _ => rfl))) (fun _ _ => rfl)))))))))))
      (pss_one (ps_ret (pe_callTy call_tuple_of (by rfl) T.n_tuple (by decide +kernel) (pa_cons (pe_lc (own := [("_law_row", 15)]) rfl sc__law_cloth.nd (pi_any (pv 10)) (blkOk_by (N := ["_law_deck_here", "_law_tall", "_law_broad", "_law_many", "_law_size", "_law_way", "_law_near", "_law_far", "_law_low", "_law_edge", "_law_rows", "_law_often", "_law_block", "_law_lines", "_law_i", "_law_row", "_law_j"]) (sc := defScope s__law_cloth) (by decide +kernel)) (fun _ _ _ _ _ => (pg_name (i := 15) sc__law_cloth.nd rfl (by first | exact .inl rfl | exact .inr rfl))) (fun _ _ _ _ _ => pts_nil) (fun _ _ _ _ _ => (pe_join pe_str (pv 15)))) pa_nil))))))
abbrev s__law_deck : Stmt := topS 26
theorem sc__law_deck : FnScope ["_law_script", "_law_cells", "_law_blend", "_law_cell"] ["_law_script"] (defScope s__law_deck) := ⟨rfl, rfl, rfl, by decide +kernel, rfl, by decide +kernel, by decide +kernel⟩
def t__law_deck (K : PySem.W.Frag) : TS :=
    (tSeq (tPar 1 2 (tCons (tCB (rListA K) (tCons (tSl (rSlU K) (tVar 0) tNoPart (tPart (tC (.int 63)))) tNil)) (tCons (tOp (rAddV K) (tC (.int 1086960)) (tOp (rI (fun _ j => 0 < j) fun i j => .int (i % j)) (tCB (rSum K) (tCons (tSl (rSlU K) (tVar 0) tNoPart (tPart (tC (.int 1)))) tNil)) (tC (.int 1000003)))) tNil)))
    (tSeq (tFor (iList K (tVar 1)) (gName 3) (tAsg (tOp (rI (fun _ j => 0 < j) fun i j => .int (i % j)) (tCB (fun xs H Q => (∃ i, xs = [.int i] ∧ Q (.int i) H) ∨ ∃ k, xs = [.bl k] ∧ Q (.int (if k then 1 else 0)) H) (tCons (tOp (rAddV K) (tOp (rAddV K) (tOp rMulU (tVar 2) (tC (.int 48271))) (tOp (rI (fun _ j => 0 < j) fun i j => .int (i % j)) (tCB (fun xs H Q => (∃ i, xs = [.int i] ∧ Q (.int i) H) ∨ ∃ k, xs = [.bl k] ∧ Q (.int (if k then 1 else 0)) H) (tCons (tVar 3) tNil)) (tC (.int 2147483629)))) (tC (.int 560))) tNil)) (tC (.int 2147483587))) (gName 2)))
    (tRet (tDisp (((tC (.str "cells")), (tRevA K (tVar 1))) :: (((tC (.str "blend")), (tVar 2)) :: (((tC (.str "draws")), (tC (.int 0))) :: [])))))))
theorem d__law_deck (T : Txt K w mg) {f : Addr} {cdv : Value} {A : Around} {outer : List PySem.Env} {s : Shared} {H : Hp} {E : XK} (hgd : A.guards = some []) (hr : Room 0 (A.deeper (PyProof.Rows.envOfC "_law_deck" (defScope s__law_deck) s.heap.objs.size f cdv))) :
    PSs (cxOf CX0 P w K mg base ["_law_script", "_law_cells", "_law_blend", "_law_cell"] "_law_deck" (defScope s__law_deck) f cdv A outer s H E).nox (defBody s__law_deck) (t__law_deck K) := by
  skip
  exact (pss_cons (ps_par (by rfl) sc__law_deck.nd rfl rfl (by decide) rfl rfl (pa_cons (pe_callTy (call_listA rfl) (by rfl) T.n_list (by decide +kernel) (pa_cons (pe_slice sl_U (pv 0) po_none (po_some pe_int)) pa_nil)) (pa_cons (pe_op op_addV pe_int (pe_op op_mod (pe_callB (cr_sum rfl) (by rfl) T.n_sum (by decide +kernel) (pa_cons (pe_slice sl_U (pv 0) po_none (po_some pe_int)) pa_nil)) pe_int)) pa_nil)) (by rfl))
      (pss_cons (ps_for PassesOwn.never rfl (pi_list (pv 1)) (pg_name (i := 3) sc__law_deck.nd rfl (by first | exact .inl rfl | exact .inr rfl)) (pss_one (ps_set (i := 2) sc__law_deck.nd rfl (by first | exact .inl rfl | exact .inr rfl) (pe_op op_mod (pe_callTy call_int1 (by rfl) T.n_int (by decide +kernel) (pa_cons (pe_op op_addV (pe_op op_addV (pe_op op_mulU (pv 2) pe_int) (pe_op op_mod (pe_callTy call_int1 (by rfl) T.n_int (by decide +kernel) (pa_cons (pv 3) pa_nil)) pe_int)) pe_int) pa_nil)) pe_int))))
      (pss_one (ps_ret (pe_disp (pps_cons pe_str (pe_revA (pv 1)) (pps_cons pe_str (pv 2) (pps_cons pe_str pe_int pps_nil))) (by rfl) (by rfl) (fun z => by cases z) (by decide))))))
abbrev s__law_turns : Stmt := topS 34
theorem sc__law_turns : FnScope ["_law_found", "_law_sign", "_law_turn"] [] (defScope s__law_turns) := ⟨rfl, rfl, rfl, by decide +kernel, rfl, by decide +kernel, by decide +kernel⟩
theorem d__law_turns (T : Txt K w mg) {f : Addr} {cdv : Value} {A : Around} {outer : List PySem.Env} {s : Shared} {H : Hp} {E : XK} (hgd : A.guards = some []) (hr : Room 0 (A.deeper (PyProof.Rows.envOfC "_law_turns" (defScope s__law_turns) s.heap.objs.size f cdv))) :
    PSs (cxOf CX0 P w K mg base ["_law_found", "_law_sign", "_law_turn"] "_law_turns" (defScope s__law_turns) f cdv A outer s H E).nox (defBody s__law_turns) (rdS ⟨K, mg⟩ q__law_turns) := by
  unfold q__law_turns
  walk_at "rd"
  exact (pss_cons (ps_set (i := 0) sc__law_turns.nd rfl (by first | exact .inl rfl | exact .inr rfl) (pe_lst (pa_cons pe_str pa_nil)))
      (pss_cons (ps_for PassesOwn.never rfl (pi_any pe_str) (pg_name (i := 1) sc__law_turns.nd rfl (by first | exact .inl rfl | exact .inr rfl)) (pss_one (ps_set (i := 0) sc__law_turns.nd rfl (by first | exact .inl rfl | exact .inr rfl) (pe_op op_addV (pv 0) (pe_lc (own := [("_law_turn", 2)]) rfl sc__law_turns.nd (pi_any (pv 0)) (blkOk_by (N := ["_law_found", "_law_sign", "_law_turn"]) (sc := defScope s__law_turns) (by decide +kernel)) (fun _ _ _ _ _ => (pg_name (i := 2) sc__law_turns.nd rfl (by first | exact .inl rfl | exact .inr rfl))) (fun _ _ _ _ _ => pts_nil) (fun _ _ _ _ _ => (pe_op op_addV (pv 2) (pv 1))))))))
      (pss_one (ps_ret (pe_callB cr_sortedS (by rfl) T.n_sorted (by decide +kernel) (pa_cons (pv 0) pa_nil))))))
abbrev s__law_motion : Stmt := topS 36
theorem sc__law_motion : FnScope ["_law_deck_here", "_law_turn", "_law_wide"] ["_law_deck_here"] (defScope s__law_motion) := ⟨rfl, rfl, rfl, by decide +kernel, rfl, by decide +kernel, by decide +kernel⟩
theorem d__law_motion (T : Txt K w mg) {f__law_draw : Addr} {fd__law_draw : FuncData} (D__law_draw : Df P w K mg base 1 "_law_draw" ["_law_deck_here", "_law_below"] (ctF F__law_draw) f__law_draw fd__law_draw) {f__law_pick : Addr} {fd__law_pick : FuncData} (D__law_pick : Df P w K mg base 2 "_law_pick" ["_law_deck_here", "_law_some"] (ctF F__law_pick) f__law_pick fd__law_pick) {f__law_turns : Addr} {fd__law_turns : FuncData} (D__law_turns : Df P w K mg base 1 "_law_turns" [] (ctF F__law_turns) f__law_turns fd__law_turns) {f : Addr} {cdv : Value} {A : Around} {outer : List PySem.Env} {s : Shared} {H : Hp} {E : XK} (hgd : A.guards = some []) (hr : Room 2 (A.deeper (PyProof.Rows.envOfC "_law_motion" (defScope s__law_motion) s.heap.objs.size f cdv))) :
    PSs (cxOf CX0 P w K mg base ["_law_deck_here", "_law_turn", "_law_wide"] "_law_motion" (defScope s__law_motion) f cdv A outer s H E).nox (defBody s__law_motion) (rdS ⟨K, mg⟩ q__law_motion) := by
  unfold q__law_motion
  walk_at "rd"
  exact (pss_cons (ps_par (by rfl) sc__law_motion.nd rfl rfl (by decide) rfl rfl (pa_cons (pe_df D__law_pick hgd (hr.mono (by decide)) (by rfl) (pa_cons (pv 0) (pa_cons (pe_df0 D__law_turns hgd (hr.mono (by decide)) (by rfl)) pa_nil))) (pa_cons (pe_ifExp (pt_cmpR op_gtU (pe_df D__law_draw hgd (hr.mono (by decide)) (by rfl) (pa_cons (pv 0) (pa_cons pe_int pa_nil))) pe_int (nomark _)) pe_int pe_int) pa_nil)) (by rfl))
      (pss_one (ps_ret (pe_tup (pa_cons (pv 1) (pa_cons (pe_op op_subV (pe_df D__law_draw hgd (hr.mono (by decide)) (by rfl) (pa_cons (pv 0) (pa_cons (pv 2) pa_nil))) (pe_op op_fdiv (pv 2) pe_int)) (pa_cons (pe_op op_subV (pe_df D__law_draw hgd (hr.mono (by decide)) (by rfl) (pa_cons (pv 0) (pa_cons (pv 2) pa_nil))) (pe_op op_fdiv (pv 2) pe_int)) pa_nil)))))))
abbrev s_Cloth___eq__ : Stmt := inClass (topS 9) 4
theorem sc_Cloth___eq__ : FnScope ["self", "other"] ["self", "other"] (defScope s_Cloth___eq__) := ⟨rfl, rfl, rfl, by decide +kernel, rfl, by decide +kernel, by decide +kernel⟩
theorem d_Cloth___eq__ (T : Txt K w mg) {f : Addr} {cdv : Value} {A : Around} {outer : List PySem.Env} {s : Shared} {H : Hp} {E : XK} (hgd : A.guards = some []) (hr : Room 0 (A.deeper (PyProof.Rows.envOfC "Cloth.__eq__" (defScope s_Cloth___eq__) s.heap.objs.size f cdv))) :
    PSs (cxOf CX0 P w K mg base ["self", "other"] "Cloth.__eq__" (defScope s_Cloth___eq__) f cdv A outer s H E).nox (defBody s_Cloth___eq__) (rdS ⟨K, mg⟩ q_Cloth___eq__) := by
  unfold q_Cloth___eq__
  walk_at "rd"
  exact (pss_one (ps_ret (pe_and (pe_isC T.x_Cloth.choose_spec.1 T.x_Cloth.choose_spec.2 (pe_callB call_isi (by rfl) T.n_isinstance (by decide +kernel) (pa_cons (pv 1) (pa_cons (pe_glob (v := .ref T.x_Cloth.choose) (by rfl) T.x_Cloth.choose_spec.1 rfl) pa_nil)))) (pe_one (pe_cmpR (op_eqW hr.units) (pe_fld (pv 0) rfl) (pe_fld (pv 1) rfl) (nomark _))))))
abbrev s__law_other : Stmt := topS 29
theorem sc__law_other : FnScope ["_law_sign"] ["_law_sign"] (defScope s__law_other) := ⟨rfl, rfl, rfl, by decide +kernel, rfl, by decide +kernel, by decide +kernel⟩
theorem d__law_other (T : Txt K w mg) {f : Addr} {cdv : Value} {A : Around} {outer : List PySem.Env} {s : Shared} {H : Hp} {E : XK} (hgd : A.guards = some []) (hr : Room 0 (A.deeper (PyProof.Rows.envOfC "_law_other" (defScope s__law_other) s.heap.objs.size f cdv))) :
    PSs (cxOf CX0 P w K mg base ["_law_sign"] "_law_other" (defScope s__law_other) f cdv A outer s H E).nox (defBody s__law_other) (rdS ⟨K, mg⟩ q__law_other) := by
  unfold q__law_other
  walk_at "rd"
  exact (pss_one (ps_ret (pe_ifExp (pt_cmpR (op_eqW hr.units) (pv 0) pe_str (nomark _)) pe_str pe_str)))
abbrev s__law_moved : Stmt := topS 30
theorem sc__law_moved : FnScope ["_law_pic", "_law_act", "_law_turn", "_law_low", "_law_wide", "_law_tall", "_law_broad", "_law_found", "_law_i", "_law_line", "_law_j", "_law_y", "_law_x", "_law_sign"] ["_law_pic", "_law_act"] (defScope s__law_moved) := ⟨rfl, rfl, rfl, by decide +kernel, rfl, by decide +kernel, by decide +kernel⟩
theorem d__law_moved (T : Txt K w mg) {f__law_other : Addr} {fd__law_other : FuncData} (D__law_other : Df P w K mg base 1 "_law_other" ["_law_sign"] (ctF F__law_other) f__law_other fd__law_other) {f : Addr} {cdv : Value} {A : Around} {outer : List PySem.Env} {s : Shared} {H : Hp} {E : XK} (hgd : A.guards = some []) (hr : Room 1 (A.deeper (PyProof.Rows.envOfC "_law_moved" (defScope s__law_moved) s.heap.objs.size f cdv))) :
    PSs (cxOf CX0 P w K mg base ["_law_pic", "_law_act", "_law_turn", "_law_low", "_law_wide", "_law_tall", "_law_broad", "_law_found", "_law_i", "_law_line", "_law_j", "_law_y", "_law_x", "_law_sign"] "_law_moved" (defScope s__law_moved) f cdv A outer s H E).nox (defBody s__law_moved) (rdS ⟨K, mg⟩ q__law_moved) := by
  unfold q__law_moved
  walk_at "rd"
  exact (pss_cons (ps_asg (pv 1) (pg_tup rfl (pgs_cons (pg_name (i := 2) sc__law_moved.nd rfl (by first | exact .inl rfl | exact .inr rfl)) (pgs_cons (pg_name (i := 3) sc__law_moved.nd rfl (by first | exact .inl rfl | exact .inr rfl)) (pgs_cons (pg_name (i := 4) sc__law_moved.nd rfl (by first | exact .inl rfl | exact .inr rfl)) pgs_nil)))))
      (pss_cons (ps_par (by rfl) sc__law_moved.nd rfl rfl (by decide) rfl rfl (pa_cons (pe_callB call_len (by rfl) T.n_len (by decide +kernel) (pa_cons (pv 0) pa_nil)) (pa_cons (pe_callB call_len (by rfl) T.n_len (by decide +kernel) (pa_cons (pe_ix ix_seq (pv 0) pe_int (fun _ _ => rfl)) pa_nil)) pa_nil)) (by rfl))
      (pss_cons (ps_if (pt_cmpR op_inU pe_str (pv 2) rfl) (pss_one (ps_par (by rfl) sc__law_moved.nd rfl rfl (by decide) rfl rfl (pa_cons (pv 6) (pa_cons (pv 5) pa_nil)) (by rfl))) pss_nil)
      (pss_cons (ps_set (i := 7) sc__law_moved.nd rfl (by first | exact .inl rfl | exact .inr rfl) (pe_lst pa_nil))
      (pss_cons (ps_for PassesOwn.never rfl (pi_range1 rfl T.n_range (pa_cons (pv 5) pa_nil)) (pg_name (i := 8) sc__law_moved.nd rfl (by first | exact .inl rfl | exact .inr rfl)) (pss_cons (ps_set (i := 9) sc__law_moved.nd rfl (by first | exact .inl rfl | exact .inr rfl) pe_str)
      (pss_cons (ps_for PassesOwn.never rfl (pi_range1 rfl T.n_range (pa_cons (pv 6) pa_nil)) (pg_name (i := 10) sc__law_moved.nd rfl (by first | exact .inl rfl | exact .inr rfl)) (pss_cons (ps_par (by rfl) sc__law_moved.nd rfl rfl (by decide) rfl rfl (pa_cons (pe_op op_subV (pv 8) (pv 3)) (pa_cons (pe_op op_subV (pv 10) (pv 4)) pa_nil)) (by rfl))
      (pss_cons (ps_set (i := 11) sc__law_moved.nd rfl (by first | exact .inl rfl | exact .inr rfl) (pe_ifExp (pt_cmpR op_inU pe_str (pv 2) rfl) (pe_op op_subV pe_int (pv 11)) (pv 11)))
      (pss_cons (ps_set (i := 12) sc__law_moved.nd rfl (by first | exact .inl rfl | exact .inr rfl) (pe_ifExp (pt_cmpR op_inU pe_str (pv 2) rfl) (pe_op op_subV pe_int (pv 12)) (pv 12)))
      (pss_cons (ps_if (pt_cmpR op_inU pe_str (pv 2) rfl) (pss_one (ps_par (by rfl) sc__law_moved.nd rfl rfl (by decide) rfl rfl (pa_cons (pv 12) (pa_cons (pv 11) pa_nil)) (by rfl))) pss_nil)
      (pss_cons (ps_set (i := 13) sc__law_moved.nd rfl (by first | exact .inl rfl | exact .inr rfl) (pe_ix ix_seq (pe_ix ix_seq (pv 0) (pe_op op_mod (pv 11) (pe_callB call_len (by rfl) T.n_len (by decide +kernel) (pa_cons (pv 0) pa_nil))) (fun _ _ => rfl)) (pe_op op_mod (pv 12) (pe_callB call_len (by rfl) T.n_len (by decide +kernel) (pa_cons (pe_ix ix_seq (pv 0) pe_int (fun _ _ => rfl)) pa_nil))) (fun _ _ => rfl)))
      (pss_one (ps_set (i := 9) sc__law_moved.nd rfl (by first | exact .inl rfl | exact .inr rfl) (pe_op op_addV (pv 9) (pe_ifExp (pt_cmpR (op_neV hr.units) (pe_cmpR op_inU pe_str (pv 2) rfl) (pe_cmpR op_inU pe_str (pv 2) rfl) (nomark _)) (pe_df D__law_other hgd (hr.mono (by decide)) (by rfl) (pa_cons (pv 13) pa_nil)) (pv 13)))))))))))
      (pss_one (ps_expr (pe_bm PySem.F.plainAttrs_list PySem.F.slot_list_append PySem.F.type_list_append mt_append (pv 7) (pa_cons (pv 9) pa_nil)))))))
      (pss_one (ps_ret (pe_callTy call_tuple_of (by rfl) T.n_tuple (by decide +kernel) (pa_cons (pv 7) pa_nil)))))))))
abbrev s__law_led : Stmt := topS 31
theorem sc__law_led : FnScope ["_law_act", "_law_spot", "_law_kind", "_law_k"] ["_law_act", "_law_spot"] (defScope s__law_led) := ⟨rfl, rfl, rfl, by decide +kernel, rfl, by decide +kernel, by decide +kernel⟩
theorem d__law_led (T : Txt K w mg) {f : Addr} {cdv : Value} {A : Around} {outer : List PySem.Env} {s : Shared} {H : Hp} {E : XK} (hgd : A.guards = some []) (hr : Room 0 (A.deeper (PyProof.Rows.envOfC "_law_led" (defScope s__law_led) s.heap.objs.size f cdv))) :
    PSs (cxOf CX0 P w K mg base ["_law_act", "_law_spot", "_law_kind", "_law_k"] "_law_led" (defScope s__law_led) f cdv A outer s H E).nox (defBody s__law_led) (rdS ⟨K, mg⟩ q__law_led) := by
  unfold q__law_led
  walk_at "rd"
  exact (pss_cons (ps_asg (pv 1) (pg_tup rfl (pgs_cons (pg_name (i := 2) sc__law_led.nd rfl (by first | exact .inl rfl | exact .inr rfl)) (pgs_cons (pg_name (i := 3) sc__law_led.nd rfl (by first | exact .inl rfl | exact .inr rfl)) pgs_nil))))
      (pss_cons (ps_if (pt_cmpR op_inU pe_str (pe_ix ix_seq (pv 0) pe_int (fun _ _ => rfl)) rfl) (pss_one (ps_set (i := 2) sc__law_led.nd rfl (by first | exact .inl rfl | exact .inr rfl) (pe_ifExp (pt_cmpR (op_eqW hr.units) (pv 2) pe_str (nomark _)) pe_str pe_str))) pss_nil)
      (pss_cons (ps_if (pt_cmpR (op_eqW hr.units) (pv 2) pe_str (nomark _)) (pss_one (ps_ret (pe_tup (pa_cons (pv 2) (pa_cons (pe_op op_addV (pe_ifExp (pt_cmpR op_inU pe_str (pe_ix ix_seq (pv 0) pe_int (fun _ _ => rfl)) rfl) (pe_op op_subV pe_int (pv 3)) (pv 3)) (pe_ix ix_seq (pv 0) pe_int (fun _ _ => rfl))) pa_nil))))) pss_nil)
      (pss_one (ps_ret (pe_tup (pa_cons (pv 2) (pa_cons (pe_op op_addV (pe_ifExp (pt_cmpR op_inU pe_str (pe_ix ix_seq (pv 0) pe_int (fun _ _ => rfl)) rfl) (pe_op op_subV pe_int (pv 3)) (pv 3)) (pe_ix ix_seq (pv 0) pe_int (fun _ _ => rfl))) pa_nil))))))))
abbrev s__law_periods : Stmt := topS 32
theorem sc__law_periods : FnScope ["_law_pic", "_law_tall", "_law_found", "_law_k", "_law_line"] ["_law_pic"] (defScope s__law_periods) := ⟨rfl, rfl, rfl, by decide +kernel, rfl, by decide +kernel, by decide +kernel⟩
theorem d__law_periods (T : Txt K w mg) {f : Addr} {cdv : Value} {A : Around} {outer : List PySem.Env} {s : Shared} {H : Hp} {E : XK} (hgd : A.guards = some []) (hr : Room 0 (A.deeper (PyProof.Rows.envOfC "_law_periods" (defScope s__law_periods) s.heap.objs.size f cdv))) :
    PSs (cxOf CX0 P w K mg base ["_law_pic", "_law_tall", "_law_found", "_law_k", "_law_line"] "_law_periods" (defScope s__law_periods) f cdv A outer s H E).nox (defBody s__law_periods) (rdS ⟨K, mg⟩ q__law_periods) := by
  unfold q__law_periods
  walk_at "rd"
  exact (pss_cons (ps_set (i := 1) sc__law_periods.nd rfl (by first | exact .inl rfl | exact .inr rfl) (pe_ix ix_seq (pe_lc (own := [("_law_k", 3)]) rfl sc__law_periods.nd (pi_range2 rfl T.n_range (pa_cons pe_int (pa_cons (pe_op op_addV (pe_callB call_len (by rfl) T.n_len (by decide +kernel) (pa_cons (pv 0) pa_nil)) pe_int) pa_nil))) (blkOk_by (N := ["_law_pic", "_law_tall", "_law_found", "_law_k", "_law_line"]) (sc := defScope s__law_periods) (by decide +kernel)) (fun _ _ _ _ _ => (pg_name (i := 3) sc__law_periods.nd rfl (by first | exact .inl rfl | exact .inr rfl))) (fun _ _ _ _ _ => (pts_one (pt_cmpR (op_eqW hr.units) (pe_op op_addV (pe_slice sl_U (pv 0) (po_some (pv 3)) po_none) (pe_slice sl_U (pv 0) po_none (po_some (pv 3)))) (pv 0) (nomark _)))) (fun _ _ _ _ _ => (pv 3))) pe_int (fun _ _ => rfl)))
      (pss_cons (ps_set (i := 2) sc__law_periods.nd rfl (by first | exact .inl rfl | exact .inr rfl) (pe_lst pa_nil))
      (pss_cons (ps_for PassesOwn.never rfl (pi_range2 rfl T.n_range (pa_cons pe_int (pa_cons (pe_op op_addV (pe_callB call_len (by rfl) T.n_len (by decide +kernel) (pa_cons (pe_ix ix_seq (pv 0) pe_int (fun _ _ => rfl)) pa_nil)) pe_int) pa_nil))) (pg_name (i := 3) sc__law_periods.nd rfl (by first | exact .inl rfl | exact .inr rfl)) (pss_one (ps_expr (pe_bm PySem.F.plainAttrs_list PySem.F.slot_list_extend PySem.F.type_list_extend mt_extend (pv 2) (pa_cons (pe_ifExp (pt_cmpR (op_eqW hr.units) (pe_lc (own := [("_law_line", 4)]) rfl sc__law_periods.nd (pi_any (pv 0)) (blkOk_by (N := ["_law_pic", "_law_tall", "_law_found", "_law_k", "_law_line"]) (sc := defScope s__law_periods) (by decide +kernel)) (fun _ _ _ _ _ => (pg_name (i := 4) sc__law_periods.nd rfl (by first | exact .inl rfl | exact .inr rfl))) (fun _ _ _ _ _ => (pts_one (pt_cmpR (op_neV hr.units) (pe_op op_addV (pe_slice sl_U (pv 4) (po_some (pv 3)) po_none) (pe_slice sl_U (pv 4) po_none (po_some (pv 3)))) (pv 4) (nomark _)))) (fun _ _ _ _ _ => (pv 4))) (pe_lst pa_nil) (nomark _)) (pe_lst (pa_cons (pv 3) pa_nil)) (pe_lst pa_nil)) pa_nil)))))
      (pss_one (ps_ret (pe_tup (pa_cons (pv 1) (pa_cons (pe_ix ix_seq (pv 2) pe_int (fun _ _ => rfl)) pa_nil))))))))
abbrev s__law_spots : Stmt := topS 37
theorem sc__law_spots : FnScope ["_law_pic", "_law_tall", "_law_broad", "_law_k"] ["_law_pic"] (defScope s__law_spots) := ⟨rfl, rfl, rfl, by decide +kernel, rfl, by decide +kernel, by decide +kernel⟩
theorem d__law_spots (T : Txt K w mg) {f__law_periods : Addr} {fd__law_periods : FuncData} (D__law_periods : Df P w K mg base 1 "_law_periods" ["_law_pic"] (ctF F__law_periods) f__law_periods fd__law_periods) {f : Addr} {cdv : Value} {A : Around} {outer : List PySem.Env} {s : Shared} {H : Hp} {E : XK} (hgd : A.guards = some []) (hr : Room 1 (A.deeper (PyProof.Rows.envOfC "_law_spots" (defScope s__law_spots) s.heap.objs.size f cdv))) :
    PSs (cxOf CX0 P w K mg base ["_law_pic", "_law_tall", "_law_broad", "_law_k"] "_law_spots" (defScope s__law_spots) f cdv A outer s H E).nox (defBody s__law_spots) (rdS ⟨K, mg⟩ q__law_spots) := by
  unfold q__law_spots
  walk_at "rd"
  exact (pss_cons (ps_asg (pe_df D__law_periods hgd (hr.mono (by decide)) (by rfl) (pa_cons (pv 0) pa_nil)) (pg_tup rfl (pgs_cons (pg_name (i := 1) sc__law_spots.nd rfl (by first | exact .inl rfl | exact .inr rfl)) (pgs_cons (pg_name (i := 2) sc__law_spots.nd rfl (by first | exact .inl rfl | exact .inr rfl)) pgs_nil))))
      (pss_one (ps_ret (pe_op op_addV (pe_lc (own := [("_law_k", 3)]) rfl sc__law_spots.nd (pi_range1 rfl T.n_range (pa_cons (pv 2) pa_nil)) (blkOk_by (N := ["_law_pic", "_law_tall", "_law_broad", "_law_k"]) (sc := defScope s__law_spots) (by decide +kernel)) (fun _ _ _ _ _ => (pg_name (i := 3) sc__law_spots.nd rfl (by first | exact .inl rfl | exact .inr rfl))) (fun _ _ _ _ _ => pts_nil) (fun _ _ _ _ _ => (pe_tup (pa_cons pe_str (pa_cons (pv 3) pa_nil))))) (pe_lc (own := [("_law_k", 3)]) rfl sc__law_spots.nd (pi_range1 rfl T.n_range (pa_cons (pv 1) pa_nil)) (blkOk_by (N := ["_law_pic", "_law_tall", "_law_broad", "_law_k"]) (sc := defScope s__law_spots) (by decide +kernel)) (fun _ _ _ _ _ => (pg_name (i := 3) sc__law_spots.nd rfl (by first | exact .inl rfl | exact .inr rfl))) (fun _ _ _ _ _ => pts_nil) (fun _ _ _ _ _ => (pe_tup (pa_cons pe_str (pa_cons (pv 3) pa_nil)))))))))
abbrev s_is_over : Stmt := topS 10
theorem sc_is_over : FnScope ["cloth", "one", "other"] ["cloth", "one", "other"] (defScope s_is_over) := ⟨rfl, rfl, rfl, by decide +kernel, rfl, by decide +kernel, by decide +kernel⟩
theorem d_is_over (T : Txt K w mg) {f : Addr} {cdv : Value} {A : Around} {outer : List PySem.Env} {s : Shared} {H : Hp} {E : XK} (hgd : A.guards = some []) (hr : Room 0 (A.deeper (PyProof.Rows.envOfC "is_over" (defScope s_is_over) s.heap.objs.size f cdv))) :
    PSs (cxOf CX0 P w K mg base ["cloth", "one", "other"] "is_over" (defScope s_is_over) f cdv A outer s H E).nox (defBody s_is_over) (rdS ⟨K, mg⟩ q_is_over) := by
  unfold q_is_over
  walk_at "rd"
  exact (pss_cons (ps_if (pt_cmpR (op_eqW hr.units) (pe_ix ix_seq (pv 1) pe_int (fun _ _ => rfl)) (pe_ix ix_seq (pv 2) pe_int (fun _ _ => rfl)) (nomark _)) (pss_one (ps_ret pe_bl)) pss_nil)
      (pss_cons (ps_if (pt_cmpR (op_eqW hr.units) (pe_ix ix_seq (pv 1) pe_int (fun _ _ => rfl)) pe_str (nomark _)) (pss_one (ps_ret (pe_cmpR (op_eqW hr.units) (pe_ix ix_seq (pe_ix ix_seq (pe_fld (pv 0) rfl) (pe_ix ix_seq (pv 2) pe_int (fun _ _ => rfl)) (fun _ _ => rfl)) (pe_ix ix_seq (pv 1) pe_int (fun _ _ => rfl)) (fun _ _ => rfl)) (pe_glob (v := .str "x") (by rfl) T.c_ABOVE.choose_spec ⟨_, rfl⟩) (nomark _)))) pss_nil)
      (pss_one (ps_ret (pe_cmpR (op_eqW hr.units) (pe_ix ix_seq (pe_ix ix_seq (pe_fld (pv 0) rfl) (pe_ix ix_seq (pv 1) pe_int (fun _ _ => rfl)) (fun _ _ => rfl)) (pe_ix ix_seq (pv 2) pe_int (fun _ _ => rfl)) (fun _ _ => rfl)) (pe_glob (v := .str "-") (by rfl) T.c_BELOW.choose_spec ⟨_, rfl⟩) (nomark _))))))
abbrev s_least_period : Stmt := topS 19
theorem sc_least_period : FnScope ["row", "count", "number", "k"] ["row"] (defScope s_least_period) := ⟨rfl, rfl, rfl, by decide +kernel, rfl, by decide +kernel, by decide +kernel⟩
theorem d_least_period (T : Txt K w mg) {f : Addr} {cdv : Value} {A : Around} {outer : List PySem.Env} {s : Shared} {H : Hp} {E : XK} (hgd : A.guards = some []) (hr : Room 0 (A.deeper (PyProof.Rows.envOfC "least_period" (defScope s_least_period) s.heap.objs.size f cdv))) :
    PSs (cxOf CX0 P w K mg base ["row", "count", "number", "k"] "least_period" (defScope s_least_period) f cdv A outer s H E).nox (defBody s_least_period) (rdS ⟨K, mg⟩ q_least_period) := by
  unfold q_least_period
  walk_at "rd"
  exact (pss_cons (ps_set (i := 1) sc_least_period.nd rfl (by first | exact .inl rfl | exact .inr rfl) (pe_callB call_len (by rfl) T.n_len (by decide +kernel) (pa_cons (pv 0) pa_nil)))
      (pss_cons (ps_for PassesOwn.never rfl (pi_range2 rfl T.n_range (pa_cons pe_int (pa_cons (pv 1) pa_nil))) (pg_name (i := 2) sc_least_period.nd rfl (by first | exact .inl rfl | exact .inr rfl)) (pss_one (ps_if (PW.pt (pw_and (pt_cmpR (op_eqW hr.units) (pe_op op_mod (pv 1) (pv 2)) pe_int (nomark _)) (pw_and1 (pt_val (pe_callB (cr_all rfl) (by rfl) T.n_all (by decide +kernel) (pa_cons (pe_lc (own := [("k", 3)]) rfl sc_least_period.nd (pi_range1 rfl T.n_range (pa_cons (pe_op op_subV (pv 1) (pv 2)) pa_nil)) (blkOk_by (N := ["row", "count", "number", "k"]) (sc := defScope s_least_period) (by decide +kernel)) (fun _ _ _ _ _ => (pg_name (i := 3) sc_least_period.nd rfl (by first | exact .inl rfl | exact .inr rfl))) (fun _ _ _ _ _ => pts_nil) (fun _ _ _ _ _ => (pe_cmpR (op_eqW hr.units) (pe_ix ix_seq (pv 0) (pv 3) (fun _ _ => rfl)) (pe_ix ix_seq (pv 0) (pe_op op_addV (pv 3) (pv 2)) (fun _ _ => rfl)) (nomark _)))) pa_nil)))))) (pss_one (ps_ret (pv 2))) pss_nil)))
      (pss_one (ps_ret (pv 1)))))
abbrev s_periods : Stmt := topS 20
theorem sc_periods : FnScope ["cloth", "columns", "end", "pick"] ["cloth"] (defScope s_periods) := ⟨rfl, rfl, rfl, by decide +kernel, rfl, by decide +kernel, by decide +kernel⟩
theorem d_periods (T : Txt K w mg) {f_least_period : Addr} {fd_least_period : FuncData} (D_least_period : Df P w K mg base 1 "least_period" ["row"] (ctF F_least_period) f_least_period fd_least_period) {f : Addr} {cdv : Value} {A : Around} {outer : List PySem.Env} {s : Shared} {H : Hp} {E : XK} (hgd : A.guards = some []) (hr : Room 1 (A.deeper (PyProof.Rows.envOfC "periods" (defScope s_periods) s.heap.objs.size f cdv))) :
    PSs (cxOf CX0 P w K mg base ["cloth", "columns", "end", "pick"] "periods" (defScope s_periods) f cdv A outer s H E).nox (defBody s_periods) (rdS ⟨K, mg⟩ q_periods) := by
  unfold q_periods
  walk_at "rd"
  exact (pss_cons (ps_setLc (i := 1) (own := [("end", 2)]) rfl sc_periods.nd rfl rfl (sw_true rfl rfl rfl (by decide +kernel)) (pi_range1 rfl T.n_range (pa_cons (pe_callB call_len (by rfl) T.n_len (by decide +kernel) (pa_cons (pe_ix ix_seq (pe_fld (pv 0) rfl) pe_int (fun _ _ => rfl)) pa_nil)) pa_nil)) (blkOk_by (N := ["cloth", "columns", "end", "pick"]) (sc := defScope s_periods) (by decide +kernel)) (fun _ _ _ _ _ => (pg_name (i := 2) sc_periods.nd rfl (by first | exact .inl rfl | exact .inr rfl))) (fun _ _ _ _ _ => pts_nil) (fun _ _ _ _ _ => (pe_join pe_str (pe_lc (own := [("pick", 3)]) rfl sc_periods.nd (pi_any (pe_fld (pv 0) rfl)) (blkOk_by (by rfl)) (fun _ _ _ _ _ => (pg_name (i := 3) sc_periods.nd rfl (by first | exact .inl rfl | exact .inr rfl))) (fun _ _ _ _ _ => pts_nil) (fun _ _ _ _ _ => (pe_ix ix_seq (pv 3) (pv 2) (fun _ _ => rfl)))))))
      (pss_one (ps_ret (pe_tup (pa_cons (pe_df D_least_period hgd (hr.mono (by decide)) (by rfl) (pa_cons (pe_fld (pv 0) rfl) pa_nil)) (pa_cons (pe_df D_least_period hgd (hr.mono (by decide)) (by rfl) (pa_cons (pv 1) pa_nil)) pa_nil))))))
abbrev s_strand_behind : Stmt := topS 23
theorem sc_strand_behind : FnScope ["size", "motion", "strand", "turn", "down", "across", "kind", "number", "many", "wide"] ["size", "motion", "strand"] (defScope s_strand_behind) := ⟨rfl, rfl, rfl, by decide +kernel, rfl, by decide +kernel, by decide +kernel⟩
theorem d_strand_behind (T : Txt K w mg) {f : Addr} {cdv : Value} {A : Around} {outer : List PySem.Env} {s : Shared} {H : Hp} {E : XK} (hgd : A.guards = some []) (hr : Room 0 (A.deeper (PyProof.Rows.envOfC "strand_behind" (defScope s_strand_behind) s.heap.objs.size f cdv))) :
    PSs (cxOf CX0 P w K mg base ["size", "motion", "strand", "turn", "down", "across", "kind", "number", "many", "wide"] "strand_behind" (defScope s_strand_behind) f cdv A outer s H E).nox (defBody s_strand_behind) (rdS ⟨K, mg⟩ q_strand_behind) := by
  unfold q_strand_behind
  walk_at "rd"
  exact (pss_cons (ps_asg (pv 1) (pg_tup rfl (pgs_cons (pg_name (i := 3) sc_strand_behind.nd rfl (by first | exact .inl rfl | exact .inr rfl)) (pgs_cons (pg_name (i := 4) sc_strand_behind.nd rfl (by first | exact .inl rfl | exact .inr rfl)) (pgs_cons (pg_name (i := 5) sc_strand_behind.nd rfl (by first | exact .inl rfl | exact .inr rfl)) pgs_nil)))))
      (pss_cons (ps_asg (pv 2) (pg_tup rfl (pgs_cons (pg_name (i := 6) sc_strand_behind.nd rfl (by first | exact .inl rfl | exact .inr rfl)) (pgs_cons (pg_name (i := 7) sc_strand_behind.nd rfl (by first | exact .inl rfl | exact .inr rfl)) pgs_nil))))
      (pss_cons (ps_if (pt_cmpR op_inU pe_str (pv 3) rfl) (pss_one (ps_set (i := 6) sc_strand_behind.nd rfl (by first | exact .inl rfl | exact .inr rfl) (pe_ifExp (pt_cmpR (op_eqW hr.units) (pv 6) (pe_glob (v := .str "end") (by rfl) T.c_END.choose_spec ⟨_, rfl⟩) (nomark _)) (pe_glob (v := .str "pick") (by rfl) T.c_PICK.choose_spec ⟨_, rfl⟩) (pe_glob (v := .str "end") (by rfl) T.c_END.choose_spec ⟨_, rfl⟩)))) pss_nil)
      (pss_cons (ps_asg (pe_ifExp (pt_cmpR op_inU pe_str (pv 3) rfl) (pe_revA (pv 0)) (pv 0)) (pg_tup rfl (pgs_cons (pg_name (i := 8) sc_strand_behind.nd rfl (by first | exact .inl rfl | exact .inr rfl)) (pgs_cons (pg_name (i := 9) sc_strand_behind.nd rfl (by first | exact .inl rfl | exact .inr rfl)) pgs_nil))))
      (pss_cons (ps_if (pt_cmpR (op_eqW hr.units) (pv 6) (pe_glob (v := .str "end") (by rfl) T.c_END.choose_spec ⟨_, rfl⟩) (nomark _)) (pss_one (ps_ret (pe_tup (pa_cons (pe_glob (v := .str "end") (by rfl) T.c_END.choose_spec ⟨_, rfl⟩) (pa_cons (pe_op op_mod (pe_op op_addV (pe_ifExp (pt_cmpR op_inU pe_str (pv 3) rfl) (pe_un un_neg (pv 7)) (pv 7)) (pv 5)) (pv 9)) pa_nil))))) pss_nil)
      (pss_one (ps_ret (pe_tup (pa_cons (pe_glob (v := .str "pick") (by rfl) T.c_PICK.choose_spec ⟨_, rfl⟩) (pa_cons (pe_op op_mod (pe_op op_addV (pe_ifExp (pt_cmpR op_inU pe_str (pv 3) rfl) (pe_un un_neg (pv 7)) (pv 7)) (pv 4)) (pv 8)) pa_nil))))))))))
abbrev s_strand_led : Stmt := topS 24
theorem sc_strand_led : FnScope ["cloth", "motion", "strand"] ["cloth", "motion", "strand"] (defScope s_strand_led) := ⟨rfl, rfl, rfl, by decide +kernel, rfl, by decide +kernel, by decide +kernel⟩
theorem d_strand_led (T : Txt K w mg) {f_periods : Addr} {fd_periods : FuncData} (D_periods : Df P w K mg base 2 "periods" ["cloth"] (ctF F_periods) f_periods fd_periods) {f_strand_behind : Addr} {fd_strand_behind : FuncData} (D_strand_behind : Df P w K mg base 1 "strand_behind" ["size", "motion", "strand"] (ctF F_strand_behind) f_strand_behind fd_strand_behind) {f : Addr} {cdv : Value} {A : Around} {outer : List PySem.Env} {s : Shared} {H : Hp} {E : XK} (hgd : A.guards = some []) (hr : Room 2 (A.deeper (PyProof.Rows.envOfC "strand_led" (defScope s_strand_led) s.heap.objs.size f cdv))) :
    PSs (cxOf CX0 P w K mg base ["cloth", "motion", "strand"] "strand_led" (defScope s_strand_led) f cdv A outer s H E).nox (defBody s_strand_led) (rdS ⟨K, mg⟩ q_strand_led) := by
  unfold q_strand_led
  walk_at "rd"
  exact (pss_one (ps_ret (pe_df D_strand_behind hgd (hr.mono (by decide)) (by rfl) (pa_cons (pe_df D_periods hgd (hr.mono (by decide)) (by rfl) (pa_cons (pv 0) pa_nil)) (pa_cons (pv 1) (pa_cons (pv 2) pa_nil))))))
abbrev s__law_strands_right : Stmt := topS 38
theorem sc__law_strands_right : FnScope ["_law_pic", "_law_act", "_law_code", "_law_far", "_law_tall", "_law_broad", "_law_spots_here", "_law_goals", "_law_spot", "_law_kind", "_law_k", "_law_due", "_law_about", "_law_near", "_law_mate"] ["_law_pic", "_law_act"] (defScope s__law_strands_right) := ⟨rfl, rfl, rfl, by decide +kernel, rfl, by decide +kernel, by decide +kernel⟩
theorem d__law_strands_right (T : Txt K w mg) {C_Cloth___init__ f_Cloth___init__ : Addr} {fd_Cloth___init__ : FuncData} (I_Cloth___init__ : Ci P w K mg base 2 "Cloth" ["self", "picks"] F_Cloth___init__ C_Cloth___init__ f_Cloth___init__ fd_Cloth___init__) {f__law_led : Addr} {fd__law_led : FuncData} (D__law_led : Df P w K mg base 1 "_law_led" ["_law_act", "_law_spot"] (ctF F__law_led) f__law_led fd__law_led) {f__law_moved : Addr} {fd__law_moved : FuncData} (D__law_moved : Df P w K mg base 2 "_law_moved" ["_law_pic", "_law_act"] (ctF F__law_moved) f__law_moved fd__law_moved) {f__law_periods : Addr} {fd__law_periods : FuncData} (D__law_periods : Df P w K mg base 1 "_law_periods" ["_law_pic"] (ctF F__law_periods) f__law_periods fd__law_periods) {f__law_spots : Addr} {fd__law_spots : FuncData} (D__law_spots : Df P w K mg base 2 "_law_spots" ["_law_pic"] (ctF F__law_spots) f__law_spots fd__law_spots) {f_is_over : Addr} {fd_is_over : FuncData} (D_is_over : Df P w K mg base 1 "is_over" ["cloth", "one", "other"] (ctF F_is_over) f_is_over fd_is_over) {f_strand_led : Addr} {fd_strand_led : FuncData} (D_strand_led : Df P w K mg base 3 "strand_led" ["cloth", "motion", "strand"] (ctF F_strand_led) f_strand_led fd_strand_led) (kb_strand_led_strand_motion_cloth : KBinds K fd_strand_led ["cloth", "motion", "strand"] ["strand", "motion", "cloth"] (kwP 0 [2, 1, 0]) (kwP 0 [2, 1, 0])) {f : Addr} {cdv : Value} {A : Around} {outer : List PySem.Env} {s : Shared} {H : Hp} {E : XK} (hgd : A.guards = some []) (hr : Room 3 (A.deeper (PyProof.Rows.envOfC "_law_strands_right" (defScope s__law_strands_right) s.heap.objs.size f cdv))) :
    PSs (cxOf CX0 P w K mg base ["_law_pic", "_law_act", "_law_code", "_law_far", "_law_tall", "_law_broad", "_law_spots_here", "_law_goals", "_law_spot", "_law_kind", "_law_k", "_law_due", "_law_about", "_law_near", "_law_mate"] "_law_strands_right" (defScope s__law_strands_right) f cdv A outer s H E).nox (defBody s__law_strands_right) (rdS ⟨K, mg⟩ q__law_strands_right) := by
  unfold q__law_strands_right
  walk_at "rd"
  exact (pss_cons (ps_par (by rfl) sc__law_strands_right.nd rfl rfl (by decide) rfl rfl (pa_cons (pe_new I_Cloth___init__ hgd (hr.mono (by decide)) (by rfl) (pa_cons (pv 0) pa_nil)) (pa_cons (pe_df D__law_moved hgd (hr.mono (by decide)) (by rfl) (pa_cons (pv 0) (pa_cons (pv 1) pa_nil))) pa_nil)) (by rfl))
      (pss_cons (ps_asg (pe_df D__law_periods hgd (hr.mono (by decide)) (by rfl) (pa_cons (pv 3) pa_nil)) (pg_tup rfl (pgs_cons (pg_name (i := 4) sc__law_strands_right.nd rfl (by first | exact .inl rfl | exact .inr rfl)) (pgs_cons (pg_name (i := 5) sc__law_strands_right.nd rfl (by first | exact .inl rfl | exact .inr rfl)) pgs_nil))))
      (pss_cons (ps_par (by rfl) sc__law_strands_right.nd rfl rfl (by decide) rfl rfl (pa_cons (pe_df D__law_spots hgd (hr.mono (by decide)) (by rfl) (pa_cons (pv 0) pa_nil)) (pa_cons pe_dnewT pa_nil)) (by rfl))
      (pss_cons (ps_for PassesOwn.never rfl (pi_any (pv 6)) (pg_name (i := 8) sc__law_strands_right.nd rfl (by first | exact .inl rfl | exact .inr rfl)) (pss_cons (ps_asg (pe_df D__law_led hgd (hr.mono (by decide)) (by rfl) (pa_cons (pv 1) (pa_cons (pv 8) pa_nil))) (pg_tup rfl (pgs_cons (pg_name (i := 9) sc__law_strands_right.nd rfl (by first | exact .inl rfl | exact .inr rfl)) (pgs_cons (pg_name (i := 10) sc__law_strands_right.nd rfl (by first | exact .inl rfl | exact .inr rfl)) pgs_nil))))
      (pss_cons (ps_set (i := 11) sc__law_strands_right.nd rfl (by first | exact .inl rfl | exact .inr rfl) (pe_tup (pa_cons (pv 9) (pa_cons (pe_op op_mod (pv 10) (pe_ifExp (pt_cmpR (op_eqW hr.units) (pv 9) pe_str (nomark _)) (pv 5) (pv 4))) pa_nil))))
      (pss_cons (ps_if (pt_cmpR (op_neV hr.units) (pe_callB (call_repr hgd hr) (by rfl) T.n_repr (by decide +kernel) (pa_cons (pe_lst (pa_cons (pe_df D_strand_led hgd (hr.mono (by decide)) (by rfl) (pa_cons (pv 2) (pa_cons (pv 1) (pa_cons (pv 8) pa_nil)))) (pa_cons (pe_dfK0 D_strand_led kb_strand_led_strand_motion_cloth hgd (hr.mono (by decide)) (by rfl) (pk_cons (pv 8) (pk_cons (pv 1) (pk_cons (pv 2) pk_nil)))) pa_nil))) pa_nil)) (pe_callB (call_repr hgd hr) (by rfl) T.n_repr (by decide +kernel) (pa_cons (pe_lst (pa_cons (pv 11) (pa_cons (pv 11) pa_nil))) pa_nil)) (nomark _)) (pss_one (ps_ret pe_bl)) pss_nil)
      (pss_one (ps_dput (hu_of hr) (pv 7) (pv 8) (pv 11) rfl))))))
      (pss_cons (ps_set (i := 12) sc__law_strands_right.nd rfl (by first | exact .inl rfl | exact .inr rfl) (pe_new I_Cloth___init__ hgd (hr.mono (by decide)) (by rfl) (pa_cons (pv 3) pa_nil)))
      (pss_cons (ps_for PassesOwn.never rfl (pi_any (pv 6)) (pg_name (i := 13) sc__law_strands_right.nd rfl (by first | exact .inl rfl | exact .inr rfl)) (pss_one (ps_for PassesOwn.never rfl (pi_any (pv 6)) (pg_name (i := 14) sc__law_strands_right.nd rfl (by first | exact .inl rfl | exact .inr rfl)) (pss_one (ps_if (PW.pt (pw_and (pt_cmpR (op_neV hr.units) (pe_ix ix_seq (pv 13) pe_int (fun _ _ => rfl)) (pe_ix ix_seq (pv 14) pe_int (fun _ _ => rfl)) (nomark _)) (pw_and1 (pt_cmpR (op_neV hr.units) (pe_df D_is_over hgd (hr.mono (by decide)) (by rfl) (pa_cons (pv 2) (pa_cons (pv 13) (pa_cons (pv 14) pa_nil)))) (pe_df D_is_over hgd (hr.mono (by decide)) (by rfl) (pa_cons (pv 12) (pa_cons (pe_dget (hu_of hr) (pv 7) (pv 13) (fun _ _ => rfl)) (pa_cons (pe_dget (hu_of hr) (pv 7) (pv 14) (fun _ _ => rfl)) pa_nil)))) (nomark _))))) (pss_one (ps_if (PW.pt (pw_or (pt_cmpR op_notInU pe_str (pe_ix ix_seq (pv 1) pe_int (fun _ _ => rfl)) rfl) (pw_or1 (pt_cmpR (op_neV hr.units) (pe_df D_is_over hgd (hr.mono (by decide)) (by rfl) (pa_cons (pv 2) (pa_cons (pv 13) (pa_cons (pv 14) pa_nil)))) (pe_df D_is_over hgd (hr.mono (by decide)) (by rfl) (pa_cons (pv 12) (pa_cons (pe_dget (hu_of hr) (pv 7) (pv 14) (fun _ _ => rfl)) (pa_cons (pe_dget (hu_of hr) (pv 7) (pv 13) (fun _ _ => rfl)) pa_nil)))) (nomark _))))) (pss_one (ps_ret pe_bl)) pss_nil)) (pss_one (ps_if (PW.pt (pw_and (pt_cmpR (op_neV hr.units) (pe_ix ix_seq (pv 13) pe_int (fun _ _ => rfl)) (pe_ix ix_seq (pv 14) pe_int (fun _ _ => rfl)) (nomark _)) (pw_and1 (pt_cmpR op_inU pe_str (pe_ix ix_seq (pv 1) pe_int (fun _ _ => rfl)) rfl)))) (pss_one (ps_ret pe_bl)) pss_nil)))))))
      (pss_one (ps_ret pe_bl))))))))
abbrev s_back_of : Stmt := topS 18
theorem sc_back_of : FnScope ["motion", "turn", "down", "across", "parts", "letter"] ["motion"] (defScope s_back_of) := ⟨rfl, rfl, rfl, by decide +kernel, rfl, by decide +kernel, by decide +kernel⟩
theorem d_back_of (T : Txt K w mg) {f : Addr} {cdv : Value} {A : Around} {outer : List PySem.Env} {s : Shared} {H : Hp} {E : XK} (hgd : A.guards = some []) (hr : Room 0 (A.deeper (PyProof.Rows.envOfC "back_of" (defScope s_back_of) s.heap.objs.size f cdv))) :
    PSs (cxOf CX0 P w K mg base ["motion", "turn", "down", "across", "parts", "letter"] "back_of" (defScope s_back_of) f cdv A outer s H E).nox (defBody s_back_of) (rdS ⟨K, mg⟩ q_back_of) := by
  unfold q_back_of
  walk_at "rd"
  exact (pss_cons (ps_asg (pv 0) (pg_tup rfl (pgs_cons (pg_name (i := 1) sc_back_of.nd rfl (by first | exact .inl rfl | exact .inr rfl)) (pgs_cons (pg_name (i := 2) sc_back_of.nd rfl (by first | exact .inl rfl | exact .inr rfl)) (pgs_cons (pg_name (i := 3) sc_back_of.nd rfl (by first | exact .inl rfl | exact .inr rfl)) pgs_nil)))))
      (pss_cons (ps_set (i := 2) sc_back_of.nd rfl (by first | exact .inl rfl | exact .inr rfl) (pe_ifExp (pt_cmpR op_inU pe_str (pv 1) rfl) (pe_un un_neg (pv 2)) (pv 2)))
      (pss_cons (ps_set (i := 3) sc_back_of.nd rfl (by first | exact .inl rfl | exact .inr rfl) (pe_ifExp (pt_cmpR op_inU pe_str (pv 1) rfl) (pe_un un_neg (pv 3)) (pv 3)))
      (pss_cons (ps_if (pt_cmpR op_notInU pe_str (pv 1) rfl) (pss_one (ps_ret (pe_tup (pa_cons (pv 1) (pa_cons (pe_un un_neg (pv 2)) (pa_cons (pe_un un_neg (pv 3)) pa_nil)))))) pss_nil)
      (pss_cons (ps_set (i := 4) sc_back_of.nd rfl (by first | exact .inl rfl | exact .inr rfl) (pe_disp (pps_cons pe_str (pe_cmpR op_inU pe_str (pv 1) rfl) (pps_cons pe_str (pe_cmpR op_inU pe_str (pv 1) rfl) (pps_cons pe_str (pe_cmpR op_inU pe_str (pv 1) rfl) (pps_cons pe_str pe_bl pps_nil)))) (by rfl) (by rfl) (fun z => by cases z) (by decide)))
      (pss_one (ps_ret (pe_tup (pa_cons (pe_join pe_str (pe_lc (own := [("letter", 5)]) rfl sc_back_of.nd (pi_any (pe_glob (v := .str "epsw") (by rfl) T.c_LETTERS.choose_spec ⟨_, rfl⟩)) (blkOk_by (N := ["motion", "turn", "down", "across", "parts", "letter"]) (sc := defScope s_back_of) (by decide +kernel)) (fun _ _ _ _ _ => (pg_name (i := 5) sc_back_of.nd rfl (by first | exact .inl rfl | exact .inr rfl))) (fun _ _ _ _ _ => (pts_one (pt_truth (pe_dget (hu_of hr) (pv 4) (pv 5) (fun _ _ => rfl)) (by intro _; rfl)))) (fun _ _ _ _ _ => (pv 5)))) (pa_cons (pe_un un_neg (pv 3)) (pa_cons (pe_un un_neg (pv 2)) pa_nil)))))))))))
abbrev s_turn_behind : Stmt := topS 16
theorem sc_turn_behind : FnScope ["turn", "later", "has_e", "has_p", "parts", "letter"] ["turn", "later"] (defScope s_turn_behind) := ⟨rfl, rfl, rfl, by decide +kernel, rfl, by decide +kernel, by decide +kernel⟩
theorem d_turn_behind (T : Txt K w mg) {f : Addr} {cdv : Value} {A : Around} {outer : List PySem.Env} {s : Shared} {H : Hp} {E : XK} (hgd : A.guards = some []) (hr : Room 0 (A.deeper (PyProof.Rows.envOfC "turn_behind" (defScope s_turn_behind) s.heap.objs.size f cdv))) :
    PSs (cxOf CX0 P w K mg base ["turn", "later", "has_e", "has_p", "parts", "letter"] "turn_behind" (defScope s_turn_behind) f cdv A outer s H E).nox (defBody s_turn_behind) (rdS ⟨K, mg⟩ q_turn_behind) := by
  unfold q_turn_behind
  walk_at "rd"
  exact (pss_cons (ps_par (by rfl) sc_turn_behind.nd rfl rfl (by decide) rfl rfl (pa_cons (pe_cmpR op_inU pe_str (pv 0) rfl) (pa_cons (pe_cmpR op_inU pe_str (pv 0) rfl) pa_nil)) (by rfl))
      (pss_cons (ps_if (pt_cmpR op_inU pe_str (pv 1) rfl) (pss_one (ps_par (by rfl) sc_turn_behind.nd rfl rfl (by decide) rfl rfl (pa_cons (pv 3) (pa_cons (pv 2) pa_nil)) (by rfl))) pss_nil)
      (pss_cons (ps_set (i := 4) sc_turn_behind.nd rfl (by first | exact .inl rfl | exact .inr rfl) (pe_disp (pps_cons pe_str (pv 2) (pps_cons pe_str (pv 3) (pps_cons pe_str (pe_cmpR op_inU pe_str (pv 0) rfl) (pps_cons pe_str (pe_cmpR op_inU pe_str (pv 0) rfl) pps_nil)))) (by rfl) (by rfl) (fun z => by cases z) (by decide)))
      (pss_one (ps_ret (pe_join pe_str (pe_lc (own := [("letter", 5)]) rfl sc_turn_behind.nd (pi_any (pe_glob (v := .str "epsw") (by rfl) T.c_LETTERS.choose_spec ⟨_, rfl⟩)) (blkOk_by (N := ["turn", "later", "has_e", "has_p", "parts", "letter"]) (sc := defScope s_turn_behind) (by decide +kernel)) (fun _ _ _ _ _ => (pg_name (i := 5) sc_turn_behind.nd rfl (by first | exact .inl rfl | exact .inr rfl))) (fun _ _ _ _ _ => (pts_one (pt_cmpR (op_neV hr.units) (pe_dget (hu_of hr) (pv 4) (pv 5) (fun _ _ => rfl)) (pe_cmpR op_inU (pv 5) (pv 1) rfl) (nomark _)))) (fun _ _ _ _ _ => (pv 5)))))))))
abbrev s_behind : Stmt := topS 17
theorem sc_behind : FnScope ["one", "other", "turn", "down", "across"] ["one", "other"] (defScope s_behind) := ⟨rfl, rfl, rfl, by decide +kernel, rfl, by decide +kernel, by decide +kernel⟩
theorem d_behind (T : Txt K w mg) {f_turn_behind : Addr} {fd_turn_behind : FuncData} (D_turn_behind : Df P w K mg base 1 "turn_behind" ["turn", "later"] (ctF F_turn_behind) f_turn_behind fd_turn_behind) {f : Addr} {cdv : Value} {A : Around} {outer : List PySem.Env} {s : Shared} {H : Hp} {E : XK} (hgd : A.guards = some []) (hr : Room 1 (A.deeper (PyProof.Rows.envOfC "behind" (defScope s_behind) s.heap.objs.size f cdv))) :
    PSs (cxOf CX0 P w K mg base ["one", "other", "turn", "down", "across"] "behind" (defScope s_behind) f cdv A outer s H E).nox (defBody s_behind) (rdS ⟨K, mg⟩ q_behind) := by
  unfold q_behind
  walk_at "rd"
  exact (pss_cons (ps_asg (pv 0) (pg_tup rfl (pgs_cons (pg_name (i := 2) sc_behind.nd rfl (by first | exact .inl rfl | exact .inr rfl)) (pgs_cons (pg_name (i := 3) sc_behind.nd rfl (by first | exact .inl rfl | exact .inr rfl)) (pgs_cons (pg_name (i := 4) sc_behind.nd rfl (by first | exact .inl rfl | exact .inr rfl)) pgs_nil)))))
      (pss_cons (ps_if (pt_cmpR op_inU pe_str (pe_ix ix_seq (pv 1) pe_int (fun _ _ => rfl)) rfl) (pss_one (ps_par (by rfl) sc_behind.nd rfl rfl (by decide) rfl rfl (pa_cons (pv 4) (pa_cons (pv 3) pa_nil)) (by rfl))) pss_nil)
      (pss_cons (ps_if (pt_cmpR op_inU pe_str (pe_ix ix_seq (pv 1) pe_int (fun _ _ => rfl)) rfl) (pss_one (ps_set (i := 4) sc_behind.nd rfl (by first | exact .inl rfl | exact .inr rfl) (pe_un un_neg (pv 4)))) pss_nil)
      (pss_cons (ps_if (pt_cmpR op_inU pe_str (pe_ix ix_seq (pv 1) pe_int (fun _ _ => rfl)) rfl) (pss_one (ps_set (i := 3) sc_behind.nd rfl (by first | exact .inl rfl | exact .inr rfl) (pe_un un_neg (pv 3)))) pss_nil)
      (pss_one (ps_ret (pe_tup (pa_cons (pe_df D_turn_behind hgd (hr.mono (by decide)) (by rfl) (pa_cons (pv 2) (pa_cons (pe_ix ix_seq (pv 1) pe_int (fun _ _ => rfl)) pa_nil))) (pa_cons (pe_op op_addV (pv 3) (pe_ix ix_seq (pv 1) pe_int (fun _ _ => rfl))) (pa_cons (pe_op op_addV (pv 4) (pe_ix ix_seq (pv 1) pe_int (fun _ _ => rfl))) pa_nil))))))))))
abbrev s_moved_picks : Stmt := topS 21
theorem sc_moved_picks : FnScope ["picks", "motion", "turn", "down", "across", "size", "many", "wide", "is_other", "found", "pick", "row", "near", "end", "far", "spot", "sign"] ["picks", "motion"] (defScope s_moved_picks) := ⟨rfl, rfl, rfl, by decide +kernel, rfl, by decide +kernel, by decide +kernel⟩
theorem d_moved_picks (T : Txt K w mg) {f : Addr} {cdv : Value} {A : Around} {outer : List PySem.Env} {s : Shared} {H : Hp} {E : XK} (hgd : A.guards = some []) (hr : Room 0 (A.deeper (PyProof.Rows.envOfC "moved_picks" (defScope s_moved_picks) s.heap.objs.size f cdv))) :
    PSs (cxOf CX0 P w K mg base ["picks", "motion", "turn", "down", "across", "size", "many", "wide", "is_other", "found", "pick", "row", "near", "end", "far", "spot", "sign"] "moved_picks" (defScope s_moved_picks) f cdv A outer s H E).nox (defBody s_moved_picks) (rdS ⟨K, mg⟩ q_moved_picks) := by
  unfold q_moved_picks
  walk_at "rd"
  exact (pss_cons (ps_asg (pv 1) (pg_tup rfl (pgs_cons (pg_name (i := 2) sc_moved_picks.nd rfl (by first | exact .inl rfl | exact .inr rfl)) (pgs_cons (pg_name (i := 3) sc_moved_picks.nd rfl (by first | exact .inl rfl | exact .inr rfl)) (pgs_cons (pg_name (i := 4) sc_moved_picks.nd rfl (by first | exact .inl rfl | exact .inr rfl)) pgs_nil)))))
      (pss_cons (ps_set (i := 5) sc_moved_picks.nd rfl (by first | exact .inl rfl | exact .inr rfl) (pe_tup (pa_cons (pe_callB call_len (by rfl) T.n_len (by decide +kernel) (pa_cons (pv 0) pa_nil)) (pa_cons (pe_callB call_len (by rfl) T.n_len (by decide +kernel) (pa_cons (pe_ix ix_seq (pv 0) pe_int (fun _ _ => rfl)) pa_nil)) pa_nil))))
      (pss_cons (ps_asg (pe_ifExp (pt_cmpR op_inU pe_str (pv 2) rfl) (pe_revA (pv 5)) (pv 5)) (pg_tup rfl (pgs_cons (pg_name (i := 6) sc_moved_picks.nd rfl (by first | exact .inl rfl | exact .inr rfl)) (pgs_cons (pg_name (i := 7) sc_moved_picks.nd rfl (by first | exact .inl rfl | exact .inr rfl)) pgs_nil))))
      (pss_cons (ps_set (i := 8) sc_moved_picks.nd rfl (by first | exact .inl rfl | exact .inr rfl) (pe_cmpR (op_neV hr.units) (pe_cmpR op_inU pe_str (pv 2) rfl) (pe_cmpR op_inU pe_str (pv 2) rfl) (nomark _)))
      (pss_cons (ps_set (i := 9) sc_moved_picks.nd rfl (by first | exact .inl rfl | exact .inr rfl) (pe_lst pa_nil))
      (pss_cons (ps_for PassesOwn.never rfl (pi_range1 rfl T.n_range (pa_cons (pv 6) pa_nil)) (pg_name (i := 10) sc_moved_picks.nd rfl (by first | exact .inl rfl | exact .inr rfl)) (pss_cons (ps_set (i := 11) sc_moved_picks.nd rfl (by first | exact .inl rfl | exact .inr rfl) (pe_lst pa_nil))
      (pss_cons (ps_set (i := 12) sc_moved_picks.nd rfl (by first | exact .inl rfl | exact .inr rfl) (pe_ifExp (pt_cmpR op_inU pe_str (pv 2) rfl) (pe_op op_subV (pv 3) (pv 10)) (pe_op op_subV (pv 10) (pv 3))))
      (pss_cons (ps_for PassesOwn.never rfl (pi_range1 rfl T.n_range (pa_cons (pv 7) pa_nil)) (pg_name (i := 13) sc_moved_picks.nd rfl (by first | exact .inl rfl | exact .inr rfl)) (pss_cons (ps_set (i := 14) sc_moved_picks.nd rfl (by first | exact .inl rfl | exact .inr rfl) (pe_ifExp (pt_cmpR op_inU pe_str (pv 2) rfl) (pe_op op_subV (pv 4) (pv 13)) (pe_op op_subV (pv 13) (pv 4))))
      (pss_cons (ps_set (i := 15) sc_moved_picks.nd rfl (by first | exact .inl rfl | exact .inr rfl) (pe_ifExp (pt_cmpR op_inU pe_str (pv 2) rfl) (pe_tup (pa_cons (pv 14) (pa_cons (pv 12) pa_nil))) (pe_tup (pa_cons (pv 12) (pa_cons (pv 14) pa_nil)))))
      (pss_cons (ps_set (i := 16) sc_moved_picks.nd rfl (by first | exact .inl rfl | exact .inr rfl) (pe_ix ix_seq (pe_ix ix_seq (pv 0) (pe_op op_mod (pe_ix ix_seq (pv 15) pe_int (fun _ _ => rfl)) (pe_ix ix_seq (pv 5) pe_int (fun _ _ => rfl))) (fun _ _ => rfl)) (pe_op op_mod (pe_ix ix_seq (pv 15) pe_int (fun _ _ => rfl)) (pe_ix ix_seq (pv 5) pe_int (fun _ _ => rfl))) (fun _ _ => rfl)))
      (pss_one (ps_expr (pe_bm PySem.F.plainAttrs_list PySem.F.slot_list_append PySem.F.type_list_append mt_append (pv 11) (pa_cons (pe_ifExp (pt_truth (pv 8) (by intro _; rfl)) (pe_kget T.k_OPPOSITE.choose_spec.2 (by rfl) T.k_OPPOSITE.choose_spec.1 (pv 16) (fun _ _ => rfl)) (pv 16)) pa_nil))))))))
      (pss_one (ps_expr (pe_bm PySem.F.plainAttrs_list PySem.F.slot_list_append PySem.F.type_list_append mt_append (pv 9) (pa_cons (pe_join pe_str (pv 11)) pa_nil))))))))
      (pss_one (ps_ret (pe_callTy call_tuple_of (by rfl) T.n_tuple (by decide +kernel) (pa_cons (pv 9) pa_nil))))))))))
abbrev s_moved : Stmt := topS 22
theorem sc_moved : FnScope ["cloth", "motion"] ["cloth", "motion"] (defScope s_moved) := ⟨rfl, rfl, rfl, by decide +kernel, rfl, by decide +kernel, by decide +kernel⟩
theorem d_moved (T : Txt K w mg) {C_Cloth___init__ f_Cloth___init__ : Addr} {fd_Cloth___init__ : FuncData} (I_Cloth___init__ : Ci P w K mg base 2 "Cloth" ["self", "picks"] F_Cloth___init__ C_Cloth___init__ f_Cloth___init__ fd_Cloth___init__) {f_moved_picks : Addr} {fd_moved_picks : FuncData} (D_moved_picks : Df P w K mg base 1 "moved_picks" ["picks", "motion"] (ctF F_moved_picks) f_moved_picks fd_moved_picks) {f : Addr} {cdv : Value} {A : Around} {outer : List PySem.Env} {s : Shared} {H : Hp} {E : XK} (hgd : A.guards = some []) (hr : Room 3 (A.deeper (PyProof.Rows.envOfC "moved" (defScope s_moved) s.heap.objs.size f cdv))) :
    PSs (cxOf CX0 P w K mg base ["cloth", "motion"] "moved" (defScope s_moved) f cdv A outer s H E).nox (defBody s_moved) (rdS ⟨K, mg⟩ q_moved) := by
  unfold q_moved
  walk_at "rd"
  exact (pss_one (ps_ret (pe_new I_Cloth___init__ hgd (hr.mono (by decide)) (by rfl) (pa_cons (pe_df D_moved_picks hgd (hr.mono (by decide)) (by rfl) (pa_cons (pe_fld (pv 0) rfl) (pa_cons (pv 1) pa_nil))) pa_nil))))
abbrev s__law_right : Stmt := topS 39
theorem sc__law_right : FnScope ["_law_pic", "_law_act", "_law_more", "_law_code", "_law_far", "_law_told", "_law_twice"] ["_law_pic", "_law_act", "_law_more"] (defScope s__law_right) := ⟨rfl, rfl, rfl, by decide +kernel, rfl, by decide +kernel, by decide +kernel⟩
theorem d__law_right (T : Txt K w mg) {C_Cloth___eq__ f_Cloth___eq__ : Addr} {fd_Cloth___eq__ : FuncData} (M_Cloth___eq__ : Mi P w K mg base 1 "Cloth" "__eq__" ["self", "other"] F_Cloth___eq__ C_Cloth___eq__ f_Cloth___eq__ fd_Cloth___eq__) {C_Cloth___init__ f_Cloth___init__ : Addr} {fd_Cloth___init__ : FuncData} (I_Cloth___init__ : Ci P w K mg base 2 "Cloth" ["self", "picks"] F_Cloth___init__ C_Cloth___init__ f_Cloth___init__ fd_Cloth___init__) {f__law_moved : Addr} {fd__law_moved : FuncData} (D__law_moved : Df P w K mg base 2 "_law_moved" ["_law_pic", "_law_act"] (ctF F__law_moved) f__law_moved fd__law_moved) {f__law_strands_right : Addr} {fd__law_strands_right : FuncData} (D__law_strands_right : Df P w K mg base 4 "_law_strands_right" ["_law_pic", "_law_act"] (ctF F__law_strands_right) f__law_strands_right fd__law_strands_right) {f_back_of : Addr} {fd_back_of : FuncData} (D_back_of : Df P w K mg base 1 "back_of" ["motion"] (ctF F_back_of) f_back_of fd_back_of) {f_behind : Addr} {fd_behind : FuncData} (D_behind : Df P w K mg base 2 "behind" ["one", "other"] (ctF F_behind) f_behind fd_behind) {f_moved : Addr} {fd_moved : FuncData} (D_moved : Df P w K mg base 4 "moved" ["cloth", "motion"] (ctF F_moved) f_moved fd_moved) (kb_moved_motion_cloth : KBinds K fd_moved ["cloth", "motion"] ["motion", "cloth"] (kwP 0 [1, 0]) (kwP 0 [1, 0])) {f : Addr} {cdv : Value} {A : Around} {outer : List PySem.Env} {s : Shared} {H : Hp} {E : XK} (hgd : A.guards = some []) (hr : Room 4 (A.deeper (PyProof.Rows.envOfC "_law_right" (defScope s__law_right) s.heap.objs.size f cdv))) :
    PSs (cxOf CX0 P w K mg base ["_law_pic", "_law_act", "_law_more", "_law_code", "_law_far", "_law_told", "_law_twice"] "_law_right" (defScope s__law_right) f cdv A outer s H E).nox (defBody s__law_right) (rdS ⟨K, mg⟩ q__law_right) := by
  unfold q__law_right
  walk_at "rd"
  exact (pss_cons (ps_par (by rfl) sc__law_right.nd rfl rfl (by decide) rfl rfl (pa_cons (pe_new I_Cloth___init__ hgd (hr.mono (by decide)) (by rfl) (pa_cons (pv 0) pa_nil)) (pa_cons (pe_df D__law_moved hgd (hr.mono (by decide)) (by rfl) (pa_cons (pv 0) (pa_cons (pv 1) pa_nil))) pa_nil)) (by rfl))
      (pss_cons (ps_set (i := 5) sc__law_right.nd rfl (by first | exact .inl rfl | exact .inr rfl) (pe_lst (pa_cons (pe_fld (pe_df D_moved hgd (hr.mono (by decide)) (by rfl) (pa_cons (pv 3) (pa_cons (pv 1) pa_nil))) rfl) (pa_cons (pe_fld (pe_dfK0 D_moved kb_moved_motion_cloth hgd (hr.mono (by decide)) (by rfl) (pk_cons (pv 1) (pk_cons (pv 3) pk_nil))) rfl) pa_nil))))
      (pss_cons (ps_if (PW.pt (pw_or (pt_cmpR (op_neV hr.units) (pe_callB (call_repr hgd hr) (by rfl) T.n_repr (by decide +kernel) (pa_cons (pv 5) pa_nil)) (pe_callB (call_repr hgd hr) (by rfl) T.n_repr (by decide +kernel) (pa_cons (pe_lst (pa_cons (pv 4) (pa_cons (pv 4) pa_nil))) pa_nil)) (nomark _)) (pw_or1 (pt_not (pt_cmpR (op_eqM M_Cloth___eq__ hgd (hr.mono (by decide))) (pe_df D_moved hgd (hr.mono (by decide)) (by rfl) (pa_cons (pe_df D_moved hgd (hr.mono (by decide)) (by rfl) (pa_cons (pv 3) (pa_cons (pv 1) pa_nil))) (pa_cons (pe_df D_back_of hgd (hr.mono (by decide)) (by rfl) (pa_cons (pv 1) pa_nil)) pa_nil))) (pv 3) (nomark _)))))) (pss_one (ps_ret pe_bl)) pss_nil)
      (pss_cons (ps_set (i := 6) sc__law_right.nd rfl (by first | exact .inl rfl | exact .inr rfl) (pe_df D_moved hgd (hr.mono (by decide)) (by rfl) (pa_cons (pe_df D_moved hgd (hr.mono (by decide)) (by rfl) (pa_cons (pv 3) (pa_cons (pv 1) pa_nil))) (pa_cons (pv 2) pa_nil))))
      (pss_cons (ps_if (PW.pt (pw_or (pt_not (pt_cmpR (op_eqM M_Cloth___eq__ hgd (hr.mono (by decide))) (pv 6) (pe_df D_moved hgd (hr.mono (by decide)) (by rfl) (pa_cons (pv 3) (pa_cons (pe_df D_behind hgd (hr.mono (by decide)) (by rfl) (pa_cons (pv 1) (pa_cons (pv 2) pa_nil))) pa_nil))) (nomark _))) (pw_or1 (pt_cmpR (op_neV hr.units) (pe_fld (pv 6) rfl) (pe_df D__law_moved hgd (hr.mono (by decide)) (by rfl) (pa_cons (pv 4) (pa_cons (pv 2) pa_nil))) (nomark _))))) (pss_one (ps_ret pe_bl)) pss_nil)
      (pss_one (ps_ret (pe_and (pe_cmpR (op_eqW hr.units) (pe_callB (call_repr hgd hr) (by rfl) T.n_repr (by decide +kernel) (pa_cons (pe_fld (pv 3) rfl) pa_nil)) (pe_callB (call_repr hgd hr) (by rfl) T.n_repr (by decide +kernel) (pa_cons (pv 0) pa_nil)) (nomark _)) (pe_one (pe_df D__law_strands_right hgd (hr.mono (by decide)) (by rfl) (pa_cons (pv 0) (pa_cons (pv 1) pa_nil))))))))))))
abbrev s_law : Stmt := topS 40
theorem sc_law : FnScope ["_law_script", "_law_deck_here", "_law_go", "_law_pic", "_law_code"] ["_law_script"] (defScope s_law) := ⟨rfl, rfl, rfl, by decide +kernel, rfl, by decide +kernel, by decide +kernel⟩
theorem d_law (T : Txt K w mg) {C_Cloth___init__ f_Cloth___init__ : Addr} {fd_Cloth___init__ : FuncData} (I_Cloth___init__ : Ci P w K mg base 2 "Cloth" ["self", "picks"] F_Cloth___init__ C_Cloth___init__ f_Cloth___init__ fd_Cloth___init__) {f__law_cloth : Addr} {fd__law_cloth : FuncData} (D__law_cloth : Df P w K mg base 3 "_law_cloth" ["_law_deck_here", "_law_tall", "_law_broad"] (ctF F__law_cloth) f__law_cloth fd__law_cloth) {f__law_deck : Addr} {fd__law_deck : FuncData} (D__law_deck : Df P w K mg base 1 "_law_deck" ["_law_script"] (deckC "blend") f__law_deck fd__law_deck) {f__law_motion : Addr} {fd__law_motion : FuncData} (D__law_motion : Df P w K mg base 3 "_law_motion" ["_law_deck_here"] (ctF F__law_motion) f__law_motion fd__law_motion) {f__law_right : Addr} {fd__law_right : FuncData} (D__law_right : Df P w K mg base 5 "_law_right" ["_law_pic", "_law_act", "_law_more"] (ctF F__law_right) f__law_right fd__law_right) {f_moved : Addr} {fd_moved : FuncData} (D_moved : Df P w K mg base 4 "moved" ["cloth", "motion"] (ctF F_moved) f_moved fd_moved) {f_strand_led : Addr} {fd_strand_led : FuncData} (D_strand_led : Df P w K mg base 3 "strand_led" ["cloth", "motion", "strand"] (ctF F_strand_led) f_strand_led fd_strand_led) {f : Addr} {cdv : Value} {A : Around} {outer : List PySem.Env} {s : Shared} {H : Hp} {E : XK} (hgd : A.guards = some []) (hr : Room 5 (A.deeper (PyProof.Rows.envOfC "law" (defScope s_law) s.heap.objs.size f cdv))) :
    PSs (cxOf CX0 P w K mg base ["_law_script", "_law_deck_here", "_law_go", "_law_pic", "_law_code"] "law" (defScope s_law) f cdv A outer s H E).nox (defBody s_law) (tSeq (tAsg (tCall (spD K mg (deckC "blend")) [] E0 (tCons (tVar 0) tNil)) (gName 1)) (rdS ⟨K, mg⟩ q_law)) := by
  unfold q_law
  walk_at "rd"
  exact (pss_cons (ps_set (i := 1) sc_law.nd rfl (by first | exact .inl rfl | exact .inr rfl) (pe_df D__law_deck hgd (hr.mono (by decide)) (by rfl) (pa_cons (pv 0) pa_nil)))
      (pss_cons (ps_for PassesOwn.never rfl (pi_range1 rfl T.n_range (pa_cons pe_int pa_nil)) (pg_name (i := 2) sc_law.nd rfl (by first | exact .inl rfl | exact .inr rfl)) (pss_cons (ps_set (i := 3) sc_law.nd rfl (by first | exact .inl rfl | exact .inr rfl) (pe_df D__law_cloth hgd (hr.mono (by decide)) (by rfl) (pa_cons (pv 1) (pa_cons pe_int (pa_cons pe_int pa_nil)))))
      (pss_one (ps_if (pt_not (pt_val (pe_df D__law_right hgd (hr.mono (by decide)) (by rfl) (pa_cons (pv 3) (pa_cons (pe_df D__law_motion hgd (hr.mono (by decide)) (by rfl) (pa_cons (pv 1) pa_nil)) (pa_cons (pe_df D__law_motion hgd (hr.mono (by decide)) (by rfl) (pa_cons (pv 1) pa_nil)) pa_nil)))))) (pss_one (ps_ret pe_bl)) pss_nil))))
      (pss_cons (ps_set (i := 4) sc_law.nd rfl (by first | exact .inl rfl | exact .inr rfl) (pe_new I_Cloth___init__ hgd (hr.mono (by decide)) (by rfl) (pa_cons (pe_tup (pa_cons pe_str (pa_cons pe_str pa_nil))) pa_nil)))
      (pss_one (ps_ret (pe_cmpR (op_eqW hr.units) (pe_lst (pa_cons (pe_fld (pe_df D_moved hgd (hr.mono (by decide)) (by rfl) (pa_cons (pv 4) (pa_cons (pe_tup (pa_cons pe_str (pa_cons pe_int (pa_cons pe_int pa_nil)))) pa_nil))) rfl) (pa_cons (pe_df D_strand_led hgd (hr.mono (by decide)) (by rfl) (pa_cons (pv 4) (pa_cons (pe_tup (pa_cons pe_str (pa_cons pe_int (pa_cons pe_int pa_nil)))) (pa_cons (pe_tup (pa_cons pe_str (pa_cons pe_int pa_nil))) pa_nil)))) pa_nil))) (pe_lst (pa_cons (pe_tup (pa_cons pe_str (pa_cons pe_str pa_nil))) (pa_cons (pe_tup (pa_cons pe_str (pa_cons pe_int pa_nil))) pa_nil))) (nomark _)))))))
end
local macro_rules | `(tactic| walk_at "se") => `(tactic| first | with_reducible exact se_0 | ((with_reducible refine' se_s ?h); (case h => walk_at "se")))
local macro_rules | `(tactic| walk_at "wp") => `(tactic| first | with_reducible exact wipe_nil | ((with_reducible refine' wipe_cons ?h1 ?h2); (case h1 => walk_at "wp"); (case h2 => walk_at "se")))
local macro_rules | `(tactic| walk_at "d1") => `(tactic| first
  | ((with_reducible refine' ed_var ?h ?_); (case h => rfl)) | with_reducible refine' ed_op ?_ | with_reducible refine' ed_int ?_ | with_reducible refine' ed_str ?_
  | with_reducible refine' sd_seq ?_ | with_reducible refine' sd_if ?_ | with_reducible refine' sd_asgN ?_ | ((with_reducible refine' env_mk ?h ?_); (case h => walk_at "se")) | with_reducible refine' sd_ret ?_ | with_reducible refine' sd_next ?_ | with_reducible refine' sd_retN ?_
  | with_reducible refine' td_tst ?_ | with_reducible refine' td_b ?_ | with_reducible refine' td_tru ?_ | with_reducible refine' tru_b ?_ | with_reducible refine' tru_i ?_ | with_reducible refine' tru_l ?_ | with_reducible refine' tru_t ?_ | with_reducible refine' tru_n ?_ | with_reducible refine' td_not ?_ | with_reducible refine' td_and ?_ | with_reducible refine' td_or ?_ | with_reducible refine' td_yes ?_
  | with_reducible refine' isBl_mk ?_
  | with_reducible refine' ed_bl ?_ | with_reducible refine' ed_non ?_
  | with_reducible refine' ed_un ?_ | with_reducible refine' ed_if ?_ | with_reducible refine' ed_and ?_ | with_reducible refine' ed_or ?_ | with_reducible refine' ed_not ?_
  | with_reducible refine' ed_tup ?_ | with_reducible refine' ed_lst ?_ | with_reducible refine' ad_cons ?_ | with_reducible refine' ad_nil ?_ | ((with_reducible refine' ed_is2 ?h ?_); (case h => decide)) | ((with_reducible refine' is_mk (b := true) ?h ?_); (case h => rfl)) | ((with_reducible refine' is_mk (b := false) ?h ?_); (case h => rfl)) | with_reducible refine' ite_t ?_ | with_reducible refine' ite_f ?_ | with_reducible refine' ite_nt ?_ | with_reducible refine' ite_nf ?_ | with_reducible refine' ed_callB ?_ | with_reducible refine' ed_call ?_
  | with_reducible refine' oa_i ?_ | with_reducible refine' os_i ?_ | with_reducible refine' ud_neg ?_ | with_reducible refine' od_cmp ?_ | with_reducible refine' cd_int ?_
  | ((with_reducible refine' od_is ?h ?_); (case h => decide +kernel)) | ((with_reducible refine' od_nis ?h ?_); (case h => decide +kernel))
  | with_reducible refine' ow_s ?_ | with_reducible refine' ow_i ?_ | with_reducible refine' ow_b ?_ | with_reducible refine' ow_e ?_ | with_reducible refine' ow_z ?_ | with_reducible refine' nv_s ?_ | with_reducible refine' nv_i ?_ | with_reducible refine' nv_bb ?_
  | ((with_reducible refine' od_ixt ?h ?_); (case h => rfl)) | ((with_reducible refine' od_ixl ?h ?_); (case h => rfl)) | ((with_reducible refine' ix_s ?h1 ?h2 ?_); (case h1 => (refine Nat.le_of_ble_eq_true ?_; rfl)); (case h2 => rfl))
  | with_reducible refine' ed_sl ?_ | with_reducible refine' pd_none ?_ | with_reducible refine' pd_some ?_ | with_reducible refine' pd_int ?_ | with_reducible refine' sl_scr ?_ | with_reducible refine' sl_lst ?_ | with_reducible refine' sl_tup ?_ | with_reducible refine' sl_str ?_ ?_
  | with_reducible refine' ed_revA ?_ | with_reducible refine' rv_lst ?_ | with_reducible refine' rv_tup ?_ | with_reducible refine' cd_listL ?_ | with_reducible refine' cd_listT ?_ | with_reducible refine' cd_sum ?_ | with_reducible refine' cd_all ?_
  | with_reducible refine' ed_disp2 ?_ | with_reducible refine' ppd_nil ?_ | with_reducible refine' ppd_cons ?_ | with_reducible refine' key_s ?_ | with_reducible refine' key_i ?_ | with_reducible refine' ed_dget ?_ | ((with_reducible refine' dget_mk ?h1 ?h2 ?_); (case h1 => rfl); (case h2 => rfl)) | ((with_reducible refine' disp_same ?h1 ?h2 ?_); (case h1 => (refine Nat.le_of_ble_eq_true ?_; rfl)); (case h2 => rfl)) | ((with_reducible refine' disp_mk ?h1 ?h2 ?_); (case h1 => (refine Nat.le_of_ble_eq_true ?_; rfl)); (case h2 => rfl)) | with_reducible refine' ex_lst ?_ | with_reducible refine' ex_tup ?_ | with_reducible refine' ex_str ?_ | with_reducible refine' ed_join2 ?_ | ((with_reducible refine' join_mk ?h1 ?h2 ?h3 ?_); (case h1 => rfl); (case h2 => (refine Nat.le_of_ble_eq_true ?_; rfl)); (case h3 => rfl)) | with_reducible refine' ed_lcW ?_ | ((with_reducible refine' wipe_mk ?h ?_); (case h => walk_at "wp")) | with_reducible refine' sd_forA ?_ | with_reducible refine' sd_asgA ?_ | with_reducible refine' wd_strU ?_ | with_reducible refine' wd_rangeL ?_ | ((with_reducible refine' rng_mk (items := [.int 0, .int 1]) ?h1 ?h2 ?_); (case h1 => decide); (case h2 => rfl)) | ((with_reducible refine' rng_mk (items := [.int 0, .int 1, .int 2]) ?h1 ?h2 ?_); (case h1 => decide); (case h2 => rfl)) | ((with_reducible refine' rng_mk (items := [.int 0, .int 1, .int 2, .int 3]) ?h1 ?h2 ?_); (case h1 => decide); (case h2 => rfl)) | ((with_reducible refine' rng_mk (items := [.int 0, .int 1, .int 2, .int 3, .int 4]) ?h1 ?h2 ?_); (case h1 => decide); (case h2 => rfl)) | ((with_reducible refine' rng_mk (items := [.int 0, .int 1, .int 2, .int 3, .int 4, .int 5]) ?h1 ?h2 ?_); (case h1 => decide); (case h2 => rfl)) | with_reducible refine' wd_list ?_ | with_reducible refine' wd_tup ?_ | with_reducible refine' lcW_nil ?_ | with_reducible refine' lcW_consY ?_ | with_reducible refine' lcW_cons ?_ | with_reducible refine' forU_nil ?_ | with_reducible refine' forU_cons ?_
  | with_reducible refine' sd_parN ?_ | with_reducible refine' sd_par3N ?_ | with_reducible refine' par2_mk ?_ | with_reducible refine' par3_mk ?_
  | ((with_reducible refine' gd_nameN ?h ?_); (case h => decide)) | with_reducible refine' gds_cons ?_ | with_reducible refine' gds_nil ?_ | ((with_reducible refine' gd_tup ?h ?_); (case h => rfl)) | ((with_reducible refine' gd_unlU ?h ?_); (case h => rfl))
  | ((with_reducible refine' sz_ok ?h ?_); (case h => (refine Nat.le_of_ble_eq_true ?_; rfl))) | fail)
local macro_rules | `(tactic| walk_at "d") => `(tactic| repeat walk_at "d1")
local macro_rules | `(tactic| walk_at "ds") => `(tactic| repeat' (first | walk_at "d1" | with_reducible refine' dite2 (fun _ => ?_) (fun _ => ?_)))
local macro_rules | `(tactic| walk_at "dm") => `(tactic| repeat' (first | with_reducible refine' sd_retL ?_ | walk_at "d1" | with_reducible refine' om_mul (cm_r ?_ ?_) (fun _ _ => ?_) | with_reducible refine' om_any ?_ (fun _ _ _ => ?_) | with_reducible refine' of_div ?_ ?_ ?_ | ((with_reducible refine' op_lit ?h ?_); (case h => decide)) | ((with_reducible refine' sd_push ?h ?_); (case h => rfl)) | with_reducible refine' andN ?_ ?_ | with_reducible refine' dite2 (fun _ => ?_) (fun _ => ?_) | omega))
local macro_rules | `(tactic| walk_at "st") => `(tactic| simp only [startD, List.map_cons, List.map_nil, List.length_cons, List.length_nil, List.cons_append, List.nil_append, Nat.reduceAdd, Nat.reduceSub, List.replicate])

section
variable {c : Cn} {n : Nat} {ds : List Dv} {R : Nat → Dv → Prop}
theorem w__law_draw (hC : ctF F__law_draw n ds R) : SD c (t__law_draw c.K) n (startD 5 ds) { nx := fun n _ => R n .non, rt := R } := by
  obtain ⟨b, rfl, b0, b1, hn, hR⟩ := drawF_wp hC
  unfold t__law_draw
  walk_at "st"
  refine sd_seq (sd_bump rfl (by decide +kernel) (by omega) ?_)
  refine sd_seq (sd_parN (ad_cons (ed_draws rfl (by decide +kernel) fun k k0 k1 => ad_cons (ed_mixed rfl (by decide +kernel) fun m m0 m1 => ad_nil (par2_mk ?_)))))
  have k2 : k < 1099511627776 := by unfold lim at k1; omega
  walk_at "d1"
  walk_at "d1"
  refine sd_seq (sd_cellsN _ (by first | exact .inl rfl | exact .inr rfl) rfl (fun z => ?_) ?_)
  all_goals walk_at "dm"
  all_goals first | exact ⟨n - 2, by omega, hR _ (by assumption) (by assumption)⟩
theorem w__law_deck (hC : deckC "blend" n ds R) : SD c (t__law_deck c.K) n (startD 4 ds) { nx := fun n _ => R n .non, rt := R } := by
  obtain ⟨ns, rfl, hR⟩ := hC
  unfold t__law_deck
  walk_at "st"
  walk_at "dm"
  refine forU_inv (fun n' e => n' = n ∧ ∃ m z, 0 ≤ m ∧ m < 4294967296 ∧ e = [some (.fz (.scr ns)), some (.fz (.lst (List.map Dv.int ((ns.drop (HT.sIx ns.length 0 none)).take (HT.sIx ns.length ns.length (some 63) - HT.sIx ns.length 0 none))))), some (.fz (.int m)), z]) ⟨rfl, _, _, by omega, by omega, rfl⟩ ?_ ?_
  · rintro d hd n' e ⟨rfl, m, z, m0, m1, rfl⟩
    obtain ⟨i, _, rfl⟩ := List.mem_map.mp hd
    walk_at "dm"
    exact ⟨rfl, _, _, by assumption, by omega, rfl⟩
  · rintro n' e ⟨rfl, m, z, m0, m1, rfl⟩
    walk_at "d"
    rw [← List.map_reverse]
    refine hR _ _ ?_ m0 m1
    rw [List.length_reverse, List.length_take]
    have : HT.sIx ns.length ns.length (some 63) ≤ 63 := by unfold HT.sIx; simp; omega
    omega
end
end K60

set_option Elab.async false
set_option linter.all false
set_option maxRecDepth 100000
set_option maxHeartbeats 2000000
/-! F8: what the data come to, told for simp; loops and comprehensions. -/
namespace DL
open PySem PySem.Spec L2
section
@[simp] theorem fo_add : addO.o2.f = addF := rfl
@[simp] theorem fo_sub : subO.o2.f = subF := rfl
@[simp] theorem fo_mul : mulO.o2.f = mulF := rfl
@[simp] theorem fo_fdiv : fdivO.o2.f = fdivF := rfl
@[simp] theorem fo_mod : modO.o2.f = modF := rfl
@[simp] theorem fo_pow : powO.o2.f = powF := rfl
@[simp] theorem fo_ix : ixO.o2.f = ixF := rfl
@[simp] theorem fo_eq : eqO.o2.f = fun d e => blO (eqF d e) := rfl
@[simp] theorem fo_ne : neO.o2.f = fun d e => blO (neF d e) := rfl
@[simp] theorem fo_cmp {f : Int → Int → Bool} {k : List Nat → List Nat → Bool} : (cmpO f k).o2.f = fun d e => blO (cmpF f k d e) := rfl
@[simp] theorem fo_in : inO.o2.f = fun d e => blO (inF d e) := rfl
@[simp] theorem fo_nin : ninO.o2.f = fun d e => blO (match inF d e with | some b => some (!b) | none => none) := rfl
@[simp] theorem fc_eq : eqO.f = eqF := rfl
@[simp] theorem fc_ne : neO.f = neF := rfl
@[simp] theorem fc_cmp {f : Int → Int → Bool} {k : List Nat → List Nat → Bool} : (cmpO f k).f = cmpF f k := rfl
@[simp] theorem fc_in : inO.f = inF := rfl
@[simp] theorem fo_neg : negO.f = negF := rfl
@[simp] theorem fo_not : notO.f = notF := rfl
@[simp] theorem fo_isN : isNO.f = fun d => some (.bl (isN d)) := rfl
@[simp] theorem fo_nisN : nisNO.f = fun d => some (.bl (!isN d)) := rfl
@[simp] theorem fo_rev : revO.f = revF := rfl
@[simp] theorem fo_sortSet : sortSetO.f = sortSetF := rfl
@[simp] theorem fo_fld {f : Str} : (fldO f).f = fldF f := rfl
@[simp] theorem fo_isC {cn : Str} : (isCO cn).f = fun d => blO (isCF cn d) := rfl
@[simp] theorem fo_isi {T : String} {h : T ∈ ["bool", "int", "str", "tuple", "list", "dict"]} : (isiO T h).f = isiF T := rfl
@[simp] theorem fo_kget {tab : List (Str × V)} : (kgetO tab).f = kgetF tab := rfl
@[simp] theorem fo_kin {x : Str} {tab : List (Str × V)} : (kinO x tab).f = kinF tab := rfl
@[simp] theorem fo_knin {x : Str} {tab : List (Str × V)} : (kninO x tab).f = knotF tab := rfl
@[simp] theorem fo_dget : dgetO.f = dgetF := rfl
@[simp] theorem fo_getV : getVO.f = getVF := rfl
@[simp] theorem fo_has : hasO.f = fun k d => blO (hasKey d k) := rfl
@[simp] theorem fo_hasN : hasNO.f = fun k d => blO ((hasKey d k).map (!·)) := rfl
@[simp] theorem fo_join : joinO.f = joinF := rfl
@[simp] theorem fp_join : joinO.pre = isS := rfl
@[simp] theorem fo_tup : tupO.f = fun ds => gO (decide (ds.length ≤ sizeLine)) (.tup ds) := rfl
@[simp] theorem fo_lst : lstO.f = fun ds => gO (decide (ds.length ≤ sizeLine)) (.lst ds) := rfl
@[simp] theorem fo_dnew : dnewO.f [] = some (.dic []) := rfl
@[simp] theorem fo_len : lenO.f = lenF := rfl
@[simp] theorem fo_int : intO.f = intF := rfl
@[simp] theorem fo_str : strO.f = strF := rfl
@[simp] theorem fo_list : listO.f = listF := rfl
@[simp] theorem fo_tuple : tupleO.f = tupleF := rfl
@[simp] theorem fo_sum : sumO.f = sumF := rfl
@[simp] theorem fo_all : allO.f = allF := rfl
@[simp] theorem fo_repr : reprO.f = reprF := rfl
@[simp] theorem fo_sortedS : sortedSO.f = sortedSF := rfl
@[simp] theorem fo_abs : absO.f = absF := rfl
@[simp] theorem fo_max2 : max2O.f = max2F := rfl
@[simp] theorem fo_min2 : min2O.f = min2F := rfl
@[simp] theorem fo_call {F : List Dv → T Dv} : (callO F).f = F := rfl
@[simp] theorem fo_mk {cn : Str} {F : List Dv → T Dv} : (mkO cn F).f = F := rfl
@[simp] theorem fo_callK {F : List Dv → T Dv} {gV gD h} : (callKO F gV gD h).f = fun ds es => F (gD ds es) := rfl
@[simp] theorem fo_any : wanyO.f = itemsD := rfl
@[simp] theorem fo_rng1 : rng1O.f = rng1F := rfl
@[simp] theorem fo_rng2 : rng2O.f = rng2F := rfl
@[simp] theorem fo_enum : enumAO.f = enumD := rfl
@[simp] theorem evE_eqi {cn : Str} {F : List Dv → T Dv} {a b : Ex} {env : DL.Env} : evE (eqiE cn F a b) env = (evE a env).bind fun d => (evE b env).bind fun e => T.grd (insP cn d && insP cn e) ((F [d, e]).bind fun z => (T.ofO (isB z)).bind fun x => .ret (.bl x)) := rfl
@[simp] theorem evE_meth {cn m : Str} {F : List Dv → T Dv} {a : Ex} {as : Ar} {env : DL.Env} : evE (methE cn m F a as) env = (evE a env).bind fun d => T.grd (methF cn m d) ((evA as env).bind fun ds => F (d :: ds)) := rfl
@[simp] theorem evE_ofld {i : Nat} {f : Str} {env : DL.Env} : evE (ofldE i f) env = (T.ofO (ownI env i)).bind fun p => T.ofO (fldF f (.ins p.1 p.2)) := rfl
@[simp] theorem evE_ogetT {i : Nat} {a : Ex} {env : DL.Env} : evE (ogetTE i a) env = (match getE env i with
    | some (.own (.dct es)) => (evE a env).bind fun x => (T.ofO (keyT x)).bind fun k => T.ofO (lkL es k)
    | some (.fz d) => (evE a env).bind fun x => T.ofO (getVF d x)
    | _ => .fail) := rfl
@[simp] theorem evE_ohas {i : Nat} {a : Ex} {env : DL.Env} : evE (ohasE i a) env = (match getE env i with
    | some (.own o) => (evE a env).bind fun x => (T.ofO (hasKey (obD o) x)).bind fun b => .ret (.bl b)
    | some (.fz d) => (evE a env).bind fun x => (T.ofO (hasKey d x)).bind fun b => .ret (.bl b)
    | _ => .fail) := rfl
@[simp] theorem evE_ohasN {i : Nat} {a : Ex} {env : DL.Env} : evE (ohasNE i a) env = (match getE env i with
    | some (.own o) => (evE a env).bind fun x => (T.ofO (hasKey (obD o) x)).bind fun b => .ret (.bl (!b))
    | some (.fz d) => (evE a env).bind fun x => (T.ofO (hasKey d x)).bind fun b => .ret (.bl (!b))
    | _ => .fail) := rfl
@[simp] theorem evS_fset {i : Nat} {f : Str} {e : Ex} {env : DL.Env} : evS (fsetS i f e) env = (T.ofO (ownI env i)).bind fun p => T.grd (decide (f ∈ flds p.1) && decide (p.2.length < 1000)) ((evE e env).bind fun d => .ret (.nx (setE env i (some (.own (.ins p.1 (putFD f d p.2))))))) := rfl
@[simp] theorem evS_newT {i : Nat} {env : DL.Env} : evS (newTS i) env = .ret (.nx (setE env i (some (.own (.dct []))))) := rfl
@[simp] theorem evS_oputT {i : Nat} {ti e : Ex} {env : DL.Env} : evS (oputTS i ti e) env = (T.ofO (ownT env i)).bind fun es => (evE e env).bind fun d => (evE ti env).bind fun x => (T.ofO (keyT x)).bind fun k => T.grd (decide (es.length < sizeLine)) (.ret (.nx (setE env i (some (.own (.dct (putL es k d))))))) := rfl
@[simp] theorem evS_never {env : DL.Env} : evS neverS env = .fail := rfl
@[simp] theorem evS_parS {i j : Nat} {ps : List Pi} {env : DL.Env} : evS (parS i j ps) env = (evIs ps env).bind fun xs => match xs with
    | [x, y] => .ret (.nx (setE (setE env i (some x)) j (some y)))
    | _ => .fail := rfl
@[simp] theorem evS_par3S {i j m : Nat} {ps : List Pi} {env : DL.Env} : evS (par3S i j m ps) env = (evIs ps env).bind fun xs => match xs with
    | [x, y, z] => .ret (.nx (setE (setE (setE env i (some x)) j (some y)) m (some z)))
    | _ => .fail := rfl
/-! ### values -/
section
variable {i j : Int} {a b : Str} {ds es : List Dv} {d e : Dv} {p q : Bool}
@[simp] theorem add_ii : addF (.int i) (.int j) = some (.int (i + j)) := rfl
@[simp] theorem add_ss : addF (.str a) (.str b) = gO (decide (a.length + b.length ≤ sizeLine)) (.str (a ++ b)) := rfl
@[simp] theorem add_ll : addF (.lst ds) (.lst es) = gO (decide (ds.length + es.length ≤ sizeLine)) (.lst (ds ++ es)) := rfl
@[simp] theorem add_tt : addF (.tup ds) (.tup es) = gO (decide (ds.length + es.length ≤ sizeLine)) (.tup (ds ++ es)) := rfl
@[simp] theorem sub_ii : subF (.int i) (.int j) = some (.int (i - j)) := rfl
@[simp] theorem mul_ii : mulF (.int i) (.int j) = gO (smallI i || smallI j) (.int (i * j)) := rfl
@[simp] theorem fdiv_ii : fdivF (.int i) (.int j) = gO (decide (0 < j ∧ j < 1073741824)) (.int (i / j)) := rfl
@[simp] theorem mod_ii : modF (.int i) (.int j) = gO (decide (0 < j)) (.int (i % j)) := rfl
@[simp] theorem neg_i : negF (.int i) = some (.int (-i)) := rfl
@[simp] theorem not_b : notF (.bl p) = some (.bl (!p)) := rfl
@[simp] theorem ix_l : ixF (.lst ds) (.int j) = L2.atI ds j := rfl
@[simp] theorem ix_t : ixF (.tup ds) (.int j) = L2.atI ds j := rfl
@[simp] theorem eq_ss : eqF (.str a) (.str b) = some (a == b) := rfl
@[simp] theorem eq_ii : eqF (.int i) (.int j) = some (i == j) := rfl
@[simp] theorem eq_bb : eqF (.bl p) (.bl q) = some (p == q) := rfl
@[simp] theorem eq_t0 : eqF (.tup ds) (.tup []) = some ds.isEmpty := by cases ds <;> rfl
@[simp] theorem eq_l0 : eqF (.lst ds) (.lst []) = some ds.isEmpty := by cases ds <;> rfl
@[simp] theorem ne_ss : neF (.str a) (.str b) = some (!(a == b)) := rfl
@[simp] theorem ne_ii : neF (.int i) (.int j) = some (!(i == j)) := rfl
@[simp] theorem ne_bb : neF (.bl p) (.bl q) = some (!(p == q)) := rfl
@[simp] theorem cmp_ii {f : Int → Int → Bool} {k : List Nat → List Nat → Bool} : cmpF f k (.int i) (.int j) = some (f i j) := rfl
@[simp] theorem cmp_ss {f : Int → Int → Bool} {k : List Nat → List Nat → Bool} : cmpF f k (.str a) (.str b) = some (k a.cps.toList b.cps.toList) := rfl
@[simp] theorem in_ss : inF (.str a) (.str b) = gO (a.cps.toList.length == 1) (hs a b) := rfl
@[simp] theorem len_l : lenF [.lst ds] = some (.int ds.length) := rfl
@[simp] theorem len_t : lenF [.tup ds] = some (.int ds.length) := rfl
@[simp] theorem int_i : intF [.int i] = some (.int i) := rfl
@[simp] theorem int_b : intF [.bl p] = some (.int (if p = true then 1 else 0)) := rfl
@[simp] theorem tuple_l : tupleF [.lst ds] = some (.tup ds) := rfl
@[simp] theorem tuple_t : tupleF [.tup ds] = some (.tup ds) := rfl
@[simp] theorem list_l : listF [.lst ds] = some (.lst ds) := rfl
@[simp] theorem list_t : listF [.tup ds] = some (.lst ds) := rfl
@[simp] theorem rev_l : revF (.lst ds) = some (.lst ds.reverse) := rfl
@[simp] theorem rev_t : revF (.tup ds) = some (.tup ds.reverse) := rfl
@[simp] theorem items_l : itemsD (.lst ds) = some ds := rfl
@[simp] theorem items_t : itemsD (.tup ds) = some ds := rfl
@[simp] theorem items_s : itemsD (.str a) = some (signs a) := rfl
@[simp] theorem enum_l : enumD [.lst ds] = some (nums ds) := rfl
@[simp] theorem enum_t : enumD [.tup ds] = some (nums ds) := rfl
@[simp] theorem enum_s : enumD [.str a] = some (nums (signs a)) := rfl
@[simp] theorem rng1_i : rng1F [.int j] = gO (decide (-(2 ^ 62) ≤ j ∧ j < 2 ^ 62)) (rints 0 j.toNat) := rfl
@[simp] theorem rng2_i : rng2F [.int i, .int j] = gO (decide (-(2 ^ 62) ≤ i ∧ i < 2 ^ 62 ∧ -(2 ^ 62) ≤ j ∧ j < 2 ^ 62)) (rints i (j - i).toNat) := rfl
@[simp] theorem isS_s : isS (.str a) = true := rfl
@[simp] theorem isN_n : isN .non = true := rfl
@[simp] theorem sl_l {lo hi : Option Int} : slF (.lst ds) lo hi = some (.lst (cutD ds lo hi)) := rfl
@[simp] theorem sl_t {lo hi : Option Int} : slF (.tup ds) lo hi = some (.tup (cutD ds lo hi)) := rfl
end
/-! ### comprehensions -/
theorem lcT_ret {α β : Type} {st : α → T (Option β)} (f : α → Option β) : ∀ {l : List α}, (∀ d ∈ l, st d = .ret (f d)) → lcT st l = .ret (l.filterMap f)
  | [], _ => rfl
  | d :: l, h => by
    show (st d).bind _ = _
    rw [h d List.mem_cons_self, T.ret_bind, lcT_ret f fun x hx => h x (List.mem_cons_of_mem _ hx), T.ret_bind, List.filterMap_cons]
    cases f d <;> rfl
theorem lcT_map {α β : Type} {st : α → T (Option β)} (f : α → β) {l : List α} (h : ∀ d ∈ l, st d = .ret (some (f d))) : lcT st l = .ret (l.map f) := by
  rw [lcT_ret (fun d => some (f d)) h, List.filterMap_eq_map' ]
theorem lcT_filter {α : Type} {st : α → T (Option α)} (p : α → Bool) {l : List α} (h : ∀ d ∈ l, st d = .ret (if p d = true then some d else none)) : lcT st l = .ret (l.filter p) := by
  rw [lcT_ret (fun d => if p d = true then some d else none) h]
  congr 1
  induction l with
  | nil => rfl
  | cons x l ih =>
    rw [List.filterMap_cons, List.filter_cons]
    have := ih fun d hd => h d (List.mem_cons_of_mem _ hd)
    cases p x <;> simp [this]
/-- with draws: k for each item -/
theorem lcT_wp {α β : Type} {st : α → T (Option β)} (P : β → Prop) (k : Nat) : ∀ {l : List α} {n : Nat} {R : Nat → List β → Prop} {E : Nat → Dv → Prop}, k * l.length ≤ n → (∀ d ∈ l, ∀ m, k ≤ m → (st d).wp m (fun m' o => ∃ y, o = some y ∧ P y ∧ m ≤ m' + k) E) →
    (∀ m ys, n ≤ m + k * l.length → ys.length = l.length → (∀ y ∈ ys, P y) → R m ys) → (lcT st l).wp n R E
  | [], n, R, E, _, _, hR => hR n [] (by simp) rfl (by simp)
  | d :: l, n, R, E, hn, h, hR => by
    have hn' : k + k * l.length ≤ n := by rw [List.length_cons, Nat.mul_succ] at hn; omega
    refine (T.wp_bind _ _ _).mpr (T.wp_mono (fun m o hz => ?_) (fun _ _ z => z) _ _ (h d List.mem_cons_self n (by omega)))
    obtain ⟨y, rfl, hy, hm⟩ := hz
    refine (T.wp_bind _ _ _).mpr (lcT_wp P k (by omega) (fun x hx => h x (List.mem_cons_of_mem _ hx)) fun m' ys h1 h2 h3 => ?_)
    refine hR m' (y :: ys) (by rw [List.length_cons, Nat.mul_succ]; omega) (by rw [List.length_cons, List.length_cons, h2]) fun z hz => ?_
    rcases List.mem_cons.mp hz with rfl | hz
    · exact hy
    · exact h3 z hz
/-! ### loops -/
/-- each turn goes on or returns -/
def loopF {α σ : Type} (f : α → σ → σ ⊕ Dv) : List α → σ → σ ⊕ Dv
  | [], s => .inl s
  | a :: l, s => match f a s with
    | .inl s' => loopF f l s'
    | .inr v => .inr v
theorem forT_loop {α σ : Type} {st : Dv → DL.Env → T Out} {fg : List Nat} (enc : α → Dv) (E : σ → DL.Env) (I : σ → Prop) (f : α → σ → σ ⊕ Dv) : ∀ {l : List α} {s : σ}, I s →
    (∀ a ∈ l, ∀ s, I s → match f a s with
      | .inl s' => I s' ∧ ∃ e, (st (enc a) (E s) = .ret (.nx e) ∨ st (enc a) (E s) = .ret (.ct e)) ∧ forE e fg = E s'
      | .inr v => st (enc a) (E s) = .ret (.rt v)) →
    forT st fg (l.map enc) (E s) = .ret (match loopF f l s with
      | .inl s' => .nx (E s')
      | .inr v => .rt v)
  | [], s, _, _ => rfl
  | a :: l, s, hs, h => by
    have h1 := h a List.mem_cons_self s hs
    have ih : ∀ s', I s' → _ := fun s' hs' => forT_loop enc E I f (l := l) (s := s') hs' fun b hb => h b (List.mem_cons_of_mem _ hb)
    show (st (enc a) (E s)).bind _ = _
    unfold loopF
    cases q : f a s with
    | inl s' =>
      rw [q] at h1
      obtain ⟨hI, e, he | he, hf⟩ := h1
      · rw [he, T.ret_bind]; dsimp only; rw [hf]; exact ih s' hI
      · rw [he, T.ret_bind]; dsimp only; rw [hf]; exact ih s' hI
    | inr v =>
      rw [q] at h1
      dsimp only at h1
      rw [h1]
      rfl
/-- a loop without return: a fold -/
theorem forT_fold {α σ : Type} {st : Dv → DL.Env → T Out} {fg : List Nat} (enc : α → Dv) (E : σ → DL.Env) (I : σ → Prop) (f : σ → α → σ) : ∀ {l : List α} {s : σ}, I s →
    (∀ a ∈ l, ∀ s, I s → I (f s a) ∧ ∃ e, (st (enc a) (E s) = .ret (.nx e) ∨ st (enc a) (E s) = .ret (.ct e)) ∧ forE e fg = E (f s a)) →
    forT st fg (l.map enc) (E s) = .ret (.nx (E (l.foldl f s)))
  | [], s, _, _ => rfl
  | a :: l, s, hs, h => by
    obtain ⟨hI, e, he | he, hf⟩ := h a List.mem_cons_self s hs
    · show (st (enc a) (E s)).bind _ = _
      rw [he, T.ret_bind]; dsimp only; rw [hf]
      exact forT_fold enc E I f hI fun b hb => h b (List.mem_cons_of_mem _ hb)
    · show (st (enc a) (E s)).bind _ = _
      rw [he, T.ret_bind]; dsimp only; rw [hf]
      exact forT_fold enc E I f hI fun b hb => h b (List.mem_cons_of_mem _ hb)
/-- with draws: J by the items left, the free draws, the locals -/
theorem forT_wp {st : Dv → DL.Env → T Out} {fg : List Nat} {R : Nat → Out → Prop} {X : Nat → Dv → Prop} (J : Nat → Nat → DL.Env → Prop) : ∀ {l : List Dv} {n : Nat} {env : DL.Env}, J l.length n env →
    (∀ d ∈ l, ∀ k n env, J (k + 1) n env → (st d env).wp n (fun n o => match o with
      | .nx e => J k n (forE e fg)
      | .ct e => J k n (forE e fg)
      | .bk e => R n (.nx e)
      | .rt v => R n (.rt v)) X) → (∀ n env, J 0 n env → R n (.nx env)) → (forT st fg l env).wp n R X
  | [], n, env, h, _, hR => hR n env h
  | d :: l, n, env, h, hs, hR => by
    refine (T.wp_bind _ _ _).mpr (T.wp_mono (fun m o z => ?_) (fun _ _ z => z) _ _ (hs d List.mem_cons_self l.length n env h))
    cases o with
    | nx e => exact forT_wp J z (fun x hx => hs x (List.mem_cons_of_mem _ hx)) hR
    | ct e => exact forT_wp J z (fun x hx => hs x (List.mem_cons_of_mem _ hx)) hR
    | bk e => exact z
    | rt v => exact z
theorem rints_map (lo : Int) (k : Nat) : rints lo k = (List.range k).map fun (i : Nat) => Dv.int (lo + (i : Int)) := rfl
theorem signs_map (x : Str) : signs x = x.cps.toList.map fun k => Dv.str ⟨#[k]⟩ := rfl
theorem nums_map (ds : List Dv) : nums ds = ds.zipIdx.map fun p => Dv.tup [.int (p.2 : Nat), p.1] := rfl
/-! ### a draw -/
theorem draw_wp {kb : Str} {b : Int} {n : Nat} {R : RP} {E : Nat → Dv → Prop} (h0 : 0 < b) (h1 : b < 1073741824) (h2 : 2 ≤ n) (h : ∀ i : Int, 0 ≤ i → i < b → R (n - 2) (.int i)) : (drawF kb [.deck kb, .int b]).wp n R E := by
  show (T.grd (decide (kb = kb)) _).wp n R E
  rw [decide_eq_true rfl]
  exact ⟨h0, h1, h2, h⟩
end
end DL

set_option Elab.async false
set_option linter.all false
set_option maxRecDepth 100000
set_option maxHeartbeats 2000000
/-! M1: turns and motions, plainly. -/
namespace MV
open PySem PySem.Spec L2 DL
structure Tn where
  e : Bool
  p : Bool
  s : Bool
  w : Bool
def cut (b : Bool) (c : Nat) : List Nat := if b = true then [c] else []
def tx (t : Tn) : Str := ⟨(cut t.e 101 ++ cut t.p 112 ++ cut t.s 115 ++ cut t.w 119).toArray⟩
structure Mo where
  t : Tn
  d : Int
  a : Int
def mo (m : Mo) : Dv := .tup [.str (tx m.t), .int m.d, .int m.a]
theorem hs_e (t : Tn) : hs "e" (tx t) = t.e := by rcases t with ⟨_ | _, _ | _, _ | _, _ | _⟩ <;> decide +kernel
theorem hs_p (t : Tn) : hs "p" (tx t) = t.p := by rcases t with ⟨_ | _, _ | _, _ | _, _ | _⟩ <;> decide +kernel
theorem hs_s (t : Tn) : hs "s" (tx t) = t.s := by rcases t with ⟨_ | _, _ | _, _ | _, _ | _⟩ <;> decide +kernel
theorem hs_w (t : Tn) : hs "w" (tx t) = t.w := by rcases t with ⟨_ | _, _ | _, _ | _, _ | _⟩ <;> decide +kernel
def behT (a b : Tn) : Tn := ⟨(if b.w = true then a.p else a.e) != b.e, (if b.w = true then a.e else a.p) != b.p, a.s != b.s, a.w != b.w⟩
def sg (b : Bool) (i : Int) : Int := if b = true then -i else i
def beh (m k : Mo) : Mo := ⟨behT m.t k.t, sg k.t.p (if k.t.w = true then m.a else m.d) + k.d, sg k.t.e (if k.t.w = true then m.d else m.a) + k.a⟩
def back (m : Mo) : Mo := if m.t.w = true then ⟨⟨m.t.p, m.t.e, m.t.s, true⟩, -(sg m.t.e m.a), -(sg m.t.p m.d)⟩ else ⟨m.t, -(sg m.t.p m.d), -(sg m.t.e m.a)⟩
/-- a spot: an end, or a pick -/
structure Sp0 where
  k : Bool
  i : Int
def kd (b : Bool) : Str := if b = true then "end" else "pick"
def spot (s : Sp0) : Dv := .tup [.str (kd s.k), .int s.i]
def led (m : Mo) (s : Sp0) : Sp0 := if (s.k != m.t.w) = true then ⟨true, sg m.t.e s.i + m.a⟩ else ⟨false, sg m.t.p s.i + m.d⟩
theorem kd_end (b : Bool) : decide (kd b = "end") = b := by cases b <;> decide +kernel
theorem beh_assoc (a b c : Mo) : beh (beh a b) c = beh a (beh b c) := by
  obtain ⟨⟨e1, p1, s1, w1⟩, d1, a1⟩ := a
  obtain ⟨⟨e2, p2, s2, w2⟩, d2, a2⟩ := b
  obtain ⟨⟨e3, p3, s3, w3⟩, d3, a3⟩ := c
  simp only [beh, behT, Mo.mk.injEq, Tn.mk.injEq]
  refine ⟨⟨?_, ?_, ?_, ?_⟩, ?_, ?_⟩
  · cases w2 <;> cases w3 <;> cases e1 <;> cases p1 <;> cases e2 <;> cases p2 <;> cases e3 <;> rfl
  · cases w2 <;> cases w3 <;> cases e1 <;> cases p1 <;> cases e2 <;> cases p2 <;> cases p3 <;> rfl
  · cases s1 <;> cases s2 <;> cases s3 <;> rfl
  · cases w1 <;> cases w2 <;> cases w3 <;> rfl
  · cases w2 <;> cases w3 <;> cases p2 <;> cases e2 <;> cases p3 <;> simp [sg] <;> omega
  · cases w2 <;> cases w3 <;> cases p2 <;> cases e2 <;> cases e3 <;> simp [sg] <;> omega
theorem led_beh (m k : Mo) (s : Sp0) : led (beh m k) s = led k (led m s) := by
  obtain ⟨⟨e1, p1, s1, w1⟩, d1, a1⟩ := m
  obtain ⟨⟨e2, p2, s2, w2⟩, d2, a2⟩ := k
  obtain ⟨b, i⟩ := s
  simp only [led, beh, behT]
  cases b <;> cases w1 <;> cases w2 <;> cases e1 <;> cases p1 <;> cases e2 <;> cases p2 <;> simp [sg] <;> omega
def one0 : Mo := ⟨⟨false, false, false, false⟩, 0, 0⟩
theorem beh_back (m : Mo) : beh m (back m) = one0 := by
  obtain ⟨⟨e1, p1, s1, w1⟩, d1, a1⟩ := m
  simp only [back, one0]
  cases w1 <;> cases e1 <;> cases p1 <;> cases s1 <;> simp [sg, beh, behT] <;> omega
theorem back_beh (m : Mo) : beh (back m) m = one0 := by
  obtain ⟨⟨e1, p1, s1, w1⟩, d1, a1⟩ := m
  simp only [back, one0]
  cases w1 <;> cases e1 <;> cases p1 <;> cases s1 <;> simp [sg, beh, behT] <;> omega
theorem back_back (m : Mo) : back (back m) = m := by
  obtain ⟨⟨e1, p1, s1, w1⟩, d1, a1⟩ := m
  simp only [back]
  cases w1 <;> cases e1 <;> cases p1 <;> simp [sg]
theorem mo_one0 : mo one0 = .tup [.str "", .int 0, .int 0] := by
  show Dv.tup [.str (tx one0.t), .int 0, .int 0] = _
  rw [show tx one0.t = "" from by decide +kernel]
def small (b : Nat) (m : Mo) : Prop := m.d.natAbs ≤ b ∧ m.a.natAbs ≤ b
theorem small_beh {b c : Nat} {m k : Mo} (h : small b m) (h2 : small c k) : small (b + c) (beh m k) := by
  obtain ⟨⟨e1, p1, s1, w1⟩, d1, a1⟩ := m
  obtain ⟨⟨e2, p2, s2, w2⟩, d2, a2⟩ := k
  obtain ⟨h1, h3⟩ := h
  obtain ⟨h2, h4⟩ := h2
  simp only at h1 h2 h3 h4
  simp only [small, beh]
  cases w2 <;> cases e2 <;> cases p2 <;> simp [sg] <;> omega
theorem small_back {b : Nat} {m : Mo} (h : small b m) : small b (back m) := by
  obtain ⟨⟨e1, p1, s1, w1⟩, d1, a1⟩ := m
  obtain ⟨h1, h3⟩ := h
  simp only at h1 h3
  simp only [small, back]
  cases w1 <;> cases e1 <;> cases p1 <;> simp [sg] <;> omega
/-! ### which texts are turns -/
def E4 : List Nat := [101, 112, 115, 119]
/-- the text's signs rise, each one of epsw -/
def turnS (x : Str) : Bool := x.cps.toList.all (fun c => decide (c ∈ E4)) && decide (x.cps.toList.Pairwise (· < ·))
def T16 : List Tn := [false, true].flatMap fun e => [false, true].flatMap fun p => [false, true].flatMap fun s => [false, true].map fun w => ⟨e, p, s, w⟩
theorem rise_eq : ∀ (l m : List Nat), l.Pairwise (· < ·) → m.Pairwise (· < ·) → (∀ k, k ∈ l ↔ k ∈ m) → l = m
  | [], [], _, _, _ => rfl
  | [], b :: m, _, _, h => absurd ((h b).mpr List.mem_cons_self) (by simp)
  | a :: l, [], _, _, h => absurd ((h a).mp List.mem_cons_self) (by simp)
  | a :: l, b :: m, hl, hm, h => by
    obtain ⟨l1, l2⟩ := List.pairwise_cons.mp hl
    obtain ⟨m1, m2⟩ := List.pairwise_cons.mp hm
    have ab : a = b := by
      rcases List.mem_cons.mp ((h a).mp List.mem_cons_self) with z | z
      · exact z
      · rcases List.mem_cons.mp ((h b).mpr List.mem_cons_self) with y | y
        · exact y.symm
        · have := m1 a z
          have := l1 b y
          omega
    subst ab
    congr 1
    refine rise_eq l m l2 m2 fun k => ?_
    constructor
    · intro hk
      rcases List.mem_cons.mp ((h k).mp (List.mem_cons_of_mem _ hk)) with z | z
      · have := l1 k hk
        omega
      · exact z
    · intro hk
      rcases List.mem_cons.mp ((h k).mpr (List.mem_cons_of_mem _ hk)) with z | z
      · have := m1 k hk
        omega
      · exact z
def tOf (x : Str) : Tn := ⟨decide (101 ∈ x.cps.toList), decide (112 ∈ x.cps.toList), decide (115 ∈ x.cps.toList), decide (119 ∈ x.cps.toList)⟩
theorem tx_list (t : Tn) : (tx t).cps.toList = cut t.e 101 ++ cut t.p 112 ++ cut t.s 115 ++ cut t.w 119 := rfl
theorem tx_rise (t : Tn) : (tx t).cps.toList.Pairwise (· < ·) ∧ ∀ k ∈ (tx t).cps.toList, k ∈ E4 := by
  rcases t with ⟨_ | _, _ | _, _ | _, _ | _⟩ <;> decide +kernel
theorem turn_tx (t : Tn) : turnS (tx t) = true := by rcases t with ⟨_ | _, _ | _, _ | _, _ | _⟩ <;> decide +kernel
theorem turn_of {x : Str} (h : turnS x = true) : x = tx (tOf x) := by
  unfold turnS at h
  rw [Bool.and_eq_true, List.all_eq_true, decide_eq_true_eq] at h
  obtain ⟨h1, h2⟩ := h
  have e : x.cps.toList = (tx (tOf x)).cps.toList := by
    refine rise_eq _ _ h2 (tx_rise _).1 fun k => ?_
    rw [tx_list]
    simp only [List.mem_append, cut, tOf, decide_eq_true_eq]
    constructor
    · intro hk
      have := h1 k hk
      simp only [E4, decide_eq_true_eq, List.mem_cons, List.not_mem_nil, or_false] at this
      rcases this with rfl | rfl | rfl | rfl <;> simp [hk]
    · rintro (((z | z) | z) | z) <;> (split at z <;> simp at z <;> subst z <;> assumption)
  obtain ⟨⟨l⟩⟩ := x
  show (⟨⟨l⟩⟩ : Str) = ⟨(cut _ 101 ++ cut _ 112 ++ cut _ 115 ++ cut _ 119).toArray⟩
  have e' : l = cut (tOf ⟨⟨l⟩⟩).e 101 ++ cut (tOf ⟨⟨l⟩⟩).p 112 ++ cut (tOf ⟨⟨l⟩⟩).s 115 ++ cut (tOf ⟨⟨l⟩⟩).w 119 := e
  rw [← e']
theorem mem_T16 (t : Tn) : t ∈ T16 := by rcases t with ⟨_ | _, _ | _, _ | _, _ | _⟩ <;> simp [T16]
theorem turn_mem (x : Str) : turnS x = decide (x ∈ T16.map tx) := by
  by_cases h : turnS x = true
  · rw [h, decide_eq_true]
    rw [turn_of h]
    exact List.mem_map_of_mem (mem_T16 _)
  · have h' : turnS x = false := by simpa using h
    rw [h', decide_eq_false]
    intro z
    obtain ⟨t, _, rfl⟩ := List.mem_map.mp z
    exact h (turn_tx t)
end MV

set_option Elab.async false
set_option linter.all false
set_option maxRecDepth 100000
set_option maxHeartbeats 2000000
/-! M2: periods, pictures, plainly. -/
namespace MV
open PySem PySem.Spec L2 DL
section
variable {β : Type} {f : Int → β}
def Per (f : Int → β) (k : Int) : Prop := ∀ i, f (i + k) = f i
theorem Per.nat {k : Int} (h : Per f k) : ∀ (n : Nat) (i : Int), f (i + k * n) = f i
  | 0, i => by simp
  | n + 1, i => by
    have := h.nat n (i + k)
    rw [h i] at this
    rw [← this]
    congr 1
    simp only [Int.natCast_add, Int.mul_add, Int.natCast_one, Int.mul_one]
    omega
theorem Per.all {k : Int} (h : Per f k) (z : Int) (i : Int) : f (i + k * z) = f i := by
  rcases Int.le_total 0 z with hz | hz
  · obtain ⟨n, rfl⟩ := Int.eq_ofNat_of_zero_le hz
    exact h.nat n i
  · obtain ⟨n, hn⟩ := Int.eq_ofNat_of_zero_le (a := -z) (by omega)
    have e : z = -(n : Int) := by omega
    subst e
    have := h.nat n (i + k * -(n : Int))
    rw [← this]
    congr 1
    rw [Int.mul_neg]
    omega
theorem Per.mod {k : Int} (h : Per f k) (i : Int) : f (i % k) = f i := by
  have := h.all (i / k) (i % k)
  rw [← this]
  congr 1
  have := Int.mul_ediv_add_emod i k
  omega
structure Least (f : Int → β) (p : Nat) : Prop where
  pos : 1 ≤ p
  per : Per f p
  le : ∀ q : Nat, 1 ≤ q → Per f q → p ≤ q
theorem Least.dvd {p m : Nat} (h : Least f p) (hm : Per f m) : m % p = 0 := by
  have hp := h.pos
  rcases Nat.eq_zero_or_pos (m % p) with z | z
  · exact z
  · exfalso
    have h1 : Per f ((m % p : Nat) : Int) := fun i => by
      rw [← h.per.all ((m / p : Nat) : Int) (i + ((m % p : Nat) : Int)), ← hm i]
      congr 1
      have := Nat.mod_add_div m p
      rw [← Int.natCast_mul]
      omega
    have := h.le _ z h1
    have := Nat.mod_lt m hp
    omega
theorem Least.uniq {p q : Nat} (h : Least f p) (h2 : Least f q) : p = q := Nat.le_antisymm (h.le q h2.pos h2.per) (h2.le p h.pos h.per)
theorem per_steps {p m : Nat} (hp : 1 ≤ p) (hm : 1 ≤ m) (hd : m % p = 0) (h : Per f m) (hs : ∀ k : Nat, k < m - p → f (k : Int) = f ((k : Int) + p)) : Per f p := by
  obtain ⟨c, rfl⟩ : ∃ c, m = p * c := ⟨m / p, by have := Nat.mod_add_div m p; omega⟩
  have hc : 1 ≤ c := by
    rcases Nat.eq_zero_or_pos c with z | z
    · subst z; simp at hm
    · exact z
  have hm' : (0 : Int) < ((p * c : Nat) : Int) := by omega
  have step : ∀ (r : Nat), r < p → ∀ t : Nat, t ≤ c - 1 → f ((r + p * t : Nat) : Int) = f (r : Int) := by
    intro r hr t
    induction t with
    | zero => intro _; simp
    | succ t ih =>
      intro ht
      rw [← ih (by omega)]
      have h1 : p * (t + 2) ≤ p * c := Nat.mul_le_mul_left p (by omega)
      have h2 : p * (t + 2) = p * t + p + p := by rw [Nat.mul_add]; omega
      have := hs (r + p * t) (by omega)
      rw [this]
      congr 1
      rw [Nat.mul_add]
      omega
  have key : ∀ r : Nat, r < p * c → f ((r : Int) + p) = f (r : Int) := by
    intro r hr
    by_cases z : r < p * c - p
    · exact (hs r z).symm
    · have h3 : p * (c - 1) + p = p * c := by
        have : c = c - 1 + 1 := by omega
        rw [this, Nat.mul_add]
        simp
      have h4 : ∃ r0, r0 < p ∧ r = r0 + p * (c - 1) := ⟨r - p * (c - 1), by omega, by omega⟩
      obtain ⟨r0, h5, rfl⟩ := h4
      rw [step r0 h5 (c - 1) (Nat.le_refl _)]
      have := h (r0 : Int)
      rw [← this]
      congr 1
      omega
  intro i
  have hr0 := Int.emod_nonneg i (by omega : ((p * c : Nat) : Int) ≠ 0)
  have hr1 := Int.emod_lt_of_pos i hm'
  obtain ⟨r, hr⟩ := Int.eq_ofNat_of_zero_le hr0
  have := key r (by omega)
  have e1 := h.all (i / ((p * c : Nat) : Int)) (i % ((p * c : Nat) : Int))
  have e2 := h.all (i / ((p * c : Nat) : Int)) (i % ((p * c : Nat) : Int) + p)
  have e3 := Int.mul_ediv_add_emod i ((p * c : Nat) : Int)
  rw [show i % ((p * c : Nat) : Int) + ((p * c : Nat) : Int) * (i / ((p * c : Nat) : Int)) = i from by omega] at e1
  rw [show i % ((p * c : Nat) : Int) + p + ((p * c : Nat) : Int) * (i / ((p * c : Nat) : Int)) = i + p from by omega] at e2
  rw [e2, e1, hr]
  exact this
theorem Least.ex {m : Nat} (hm : 1 ≤ m) (h : Per f m) : ∃ p, Least f p ∧ p ≤ m := by
  induction m using Nat.strongRecOn with
  | ind m ih =>
    by_cases z : ∃ q : Nat, 1 ≤ q ∧ q < m ∧ Per f q
    · obtain ⟨q, h1, h2, h3⟩ := z
      obtain ⟨p, h4, h5⟩ := ih q h2 h1 h3
      exact ⟨p, h4, by omega⟩
    · refine ⟨m, ⟨hm, h, fun q h1 h2 => ?_⟩, Nat.le_refl _⟩
      rcases Nat.lt_or_ge q m with y | y
      · exact absurd ⟨q, h1, y, h2⟩ z
      · exact y
end
/-! ### pictures -/
def sgnC (b : Bool) : Nat := if b = true then 120 else 45
def sgnS (b : Bool) : Str := ⟨#[sgnC b]⟩
def rowS (w : Nat) (f : Int → Bool) : Str := ⟨((List.range w).map fun j => sgnC (f (j : Nat))).toArray⟩
def pic (m w : Nat) (A : Int → Int → Bool) : Dv := .tup ((List.range m).map fun i => .str (rowS w (A (i : Nat))))
theorem sgnC_inj {a b : Bool} (h : sgnC a = sgnC b) : a = b := by cases a <;> cases b <;> simp_all [sgnC]
theorem sgnS_x (b : Bool) : (sgnS b == "x") = b := by cases b <;> decide +kernel
theorem sgnS_d (b : Bool) : (sgnS b == "-") = !b := by cases b <;> decide +kernel
theorem str_eq {a b : Str} (h : a.cps.toList = b.cps.toList) : a = b := by
  obtain ⟨⟨l⟩⟩ := a
  obtain ⟨⟨k⟩⟩ := b
  cases h
  rfl
theorem rowS_list (w : Nat) (f : Int → Bool) : (rowS w f).cps.toList = (List.range w).map fun j => sgnC (f (j : Nat)) := rfl
theorem rowS_len (w : Nat) (f : Int → Bool) : (rowS w f).length = w := by simp [rowS, Str.length]
theorem rowS_eq {w : Nat} {f g : Int → Bool} : rowS w f = rowS w g ↔ ∀ j : Nat, j < w → f j = g j := by
  constructor
  · intro h j hj
    have h1 := congrArg (fun z => z.cps.toList[j]?) h
    simp only [rowS_list, List.getElem?_map, List.getElem?_range hj, Option.map_some, Option.some.injEq] at h1
    exact sgnC_inj h1
  · intro h
    refine str_eq ?_
    rw [rowS_list, rowS_list]
    refine List.map_congr_left fun j hj => ?_
    rw [h j (List.mem_range.mp hj)]
theorem rowS_zero (f : Int → Bool) : rowS 0 f = "" := by rw [show rowS 0 f = rowS 0 fun _ => true from rowS_eq.mpr fun j hj => by omega]; decide +kernel
theorem rowS_succ (w : Nat) (f : Int → Bool) : rowS (w + 1) f = rowS w f ++ sgnS (f w) := by
  refine str_eq ?_
  show _ = ((rowS w f).cps ++ (sgnS (f w)).cps).toList
  rw [Array.toList_append, rowS_list, rowS_list, List.range_succ, List.map_append]
  rfl
/-- m rows of w signs, told again and again -/
structure Pc (m w : Nat) (A : Int → Int → Bool) : Prop where
  m1 : 1 ≤ m
  m2 : m ≤ 1000
  w1 : 1 ≤ w
  w2 : w ≤ 1000
  pi : Per A m
  pj : Per (fun j i => A i j) w
section
variable {m w : Nat} {A : Int → Int → Bool}
theorem Pc.J (P : Pc m w A) (i j : Int) : A i (j % w) = A i j := congrFun (P.pj.mod j) i
theorem Pc.I (P : Pc m w A) (i j : Int) : A (i % m) j = A i j := congrFun (P.pi.mod i) j
theorem at_map {α : Type} {n : Nat} {g : Nat → α} {k : Int} (h0 : 0 ≤ k) (h1 : k < n) : L2.atI ((List.range n).map g) k = some (g k.toNat) := by
  rw [at_nat h0 (by simp; omega)]
  simp
theorem ix_pic {k : Int} (h0 : 0 ≤ k) (h1 : k < m) : ixF (pic m w A) (.int k) = some (.str (rowS w (A k))) := by
  show L2.atI _ _ = _
  rw [at_map h0 h1, Int.toNat_of_nonneg h0]
theorem ix_picM (h : 1 ≤ m) (i : Int) : ixF (pic m w A) (.int (i % m)) = some (.str (rowS w (A (i % m)))) := ix_pic (Int.emod_nonneg i (by omega)) (Int.emod_lt_of_pos i (by omega))
theorem ix_pic0 (h : 1 ≤ m) : ixF (pic m w A) (.int 0) = some (.str (rowS w (A 0))) := ix_pic (Int.le_refl _) (by omega)
theorem ix_row {f : Int → Bool} {k : Int} (hw : w ≤ 1000) (h0 : 0 ≤ k) (h1 : k < w) : ixF (.str (rowS w f)) (.int k) = some (.str (sgnS (f k))) := by
  have : L2.atI (rowS w f).cps.toList k = some (sgnC (f k)) := by rw [rowS_list, at_map h0 h1, Int.toNat_of_nonneg h0]
  unfold ixF
  simp only [rowS_len, this]
  rw [decide_eq_true (by unfold sizeLine; omega)]
  rfl
theorem ix_rowM {f : Int → Bool} (hw : w ≤ 1000) (h : 1 ≤ w) (j : Int) : ixF (.str (rowS w f)) (.int (j % w)) = some (.str (sgnS (f (j % w)))) := ix_row hw (Int.emod_nonneg j (by omega)) (Int.emod_lt_of_pos j (by omega))
theorem len_pic : lenF [pic m w A] = some (.int m) := by simp [pic]
theorem len_row {f : Int → Bool} (hw : w ≤ 1000) : lenF [.str (rowS w f)] = some (.int w) := by
  simp only [lenF, lenD, rowS_len]
  rw [if_pos (by unfold sizeLine; omega)]
theorem mod_n (h : 1 ≤ m) (i : Int) : modF (.int i) (.int m) = some (.int (i % m)) := by
  rw [mod_ii, decide_eq_true (by omega : 0 < (m : Int))]
  rfl
theorem rng_n (h : m ≤ 1000) : rng1F [.int m] = some (rints 0 m) := by
  rw [rng1_i, decide_eq_true (by omega), Int.toNat_natCast]
  rfl
theorem pic_ext {B : Int → Int → Bool} (h : ∀ i j : Nat, i < m → j < w → A i j = B i j) : pic m w A = pic m w B := by
  unfold pic
  congr 1
  refine List.map_congr_left fun i hi => ?_
  congr 1
  exact rowS_eq.mpr fun j hj => h i j (List.mem_range.mp hi) hj
end
/-! ### a loop by places -/
theorem forT_at {st : Dv → DL.Env → T Out} {fg : List Nat} : ∀ {l : List Dv} (E : Nat → DL.Env), (∀ k (h : k < l.length), ∃ e, (st l[k] (E k) = .ret (.nx e) ∨ st l[k] (E k) = .ret (.ct e)) ∧ forE e fg = E (k + 1)) → forT st fg l (E 0) = .ret (.nx (E l.length))
  | [], E, _ => rfl
  | d :: l, E, h => by
    obtain ⟨e, he, hf⟩ := h 0 (by simp)
    have ih := forT_at (st := st) (fg := fg) (l := l) (fun k => E (k + 1)) fun k hk => by
      have := h (k + 1) (by simpa using hk)
      simpa using this
    rcases he with he | he
    · show (st d (E 0)).bind _ = _
      rw [show st d (E 0) = _ from he, T.ret_bind]
      dsimp only
      rw [hf]
      exact ih
    · show (st d (E 0)).bind _ = _
      rw [show st d (E 0) = _ from he, T.ret_bind]
      dsimp only
      rw [hf]
      exact ih
theorem forT_rng {st : Dv → DL.Env → T Out} {fg : List Nat} {n : Nat} {lo : Int} (E : Nat → DL.Env) (h : ∀ k, k < n → ∃ e, (st (.int (lo + k)) (E k) = .ret (.nx e) ∨ st (.int (lo + k)) (E k) = .ret (.ct e)) ∧ forE e fg = E (k + 1)) : forT st fg (rints lo n) (E 0) = .ret (.nx (E n)) := by
  have := forT_at (st := st) (fg := fg) (l := rints lo n) E fun k hk => by
    have := h k (by simpa [rints_map] using hk)
    simpa [rints_map] using this
  simpa [rints_map] using this
end MV

set_option Elab.async false
set_option linter.all false
set_option maxRecDepth 100000
set_option maxHeartbeats 2000000
/-! M3: values, and the tactic that steps. -/
namespace MV
open PySem PySem.Spec L2 DL
theorem in_e (t : Tn) : inF (.str "e") (.str (tx t)) = some t.e := by rw [in_ss, hs_e]; rfl
theorem in_p (t : Tn) : inF (.str "p") (.str (tx t)) = some t.p := by rw [in_ss, hs_p]; rfl
theorem in_s (t : Tn) : inF (.str "s") (.str (tx t)) = some t.s := by rw [in_ss, hs_s]; rfl
theorem in_w (t : Tn) : inF (.str "w") (.str (tx t)) = some t.w := by rw [in_ss, hs_w]; rfl
theorem kd_end' (b : Bool) : (kd b == "end") = b := by cases b <;> decide +kernel
theorem pe_ : ((("pick" : Str)) == "end") = false := by decide +kernel
theorem ee_ : ((("end" : Str)) == "end") = true := by decide +kernel
theorem kt_ : kd true = "end" := rfl
theorem kf_ : kd false = "pick" := rfl
theorem at_0 {α : Type} {a : α} {l : List α} : L2.atI (a :: l) 0 = some a := by
  unfold L2.atI L2.ixN
  rw [if_pos (by decide), if_pos (by simp)]
  rfl
theorem at_1 {α : Type} {a b : α} {l : List α} : L2.atI (a :: b :: l) 1 = some b := by
  unfold L2.atI L2.ixN
  rw [if_pos (by decide), if_pos (by simp; omega)]
  rfl
theorem at_2 {α : Type} {a b c : α} {l : List α} : L2.atI (a :: b :: c :: l) 2 = some c := by
  unfold L2.atI L2.ixN
  rw [if_pos (by decide), if_pos (by simp; omega)]
  rfl
theorem ite_nx {b : Bool} {x y : DL.Env} : T.ite b (.ret (Out.nx x)) (.ret (Out.nx y)) = .ret (Out.nx (if b = true then x else y)) := by cases b <;> rfl
theorem ite_ret {α : Type} {b : Bool} {x y : α} : T.ite b (.ret x) (.ret y) = .ret (if b = true then x else y) := by cases b <;> rfl
theorem bind_cg {α β : Type} {m m' : T α} {f : α → T β} (h : m = m') : m.bind f = m'.bind f := by rw [h]
theorem ite_cg {α : Type} {b b' : Bool} {x y : T α} (h : b = b') : T.ite b x y = T.ite b' x y := by rw [h]
theorem grd_cg {α : Type} {b b' : Bool} {x : T α} (h : b = b') : T.grd b x = T.grd b' x := by rw [h]
/-! ### one step after the other: what comes later stays data -/
def thenS (m : T Out) (b : Sm) : T Out := andThen m fun e => evS b e
def iteS (x : Bool) (a b : Sm) (env : DL.Env) : T Out := T.ite x (evS a env) (evS b env)
def iteE (x : Bool) (a b : Ex) (env : DL.Env) : T Dv := T.ite x (evE a env) (evE b env)
def andE (x : Bool) (b : Ex) (env : DL.Env) : T Dv := T.ite x (evE b env) (.ret (.bl false))
def andTE (x : Bool) (b : Te) (env : DL.Env) : T Bool := T.ite x (evT b env) (.ret false)
def orTE (x : Bool) (b : Te) (env : DL.Env) : T Bool := T.ite x (.ret true) (evT b env)
def stepB (g : Tg) (b : Sm) (d : Dv) (env : DL.Env) : T Out := (T.ofO (evG g d env)).bind fun env => evS b env
def forB (g : Tg) (b : Sm) (fg : List Nat) (items : List Dv) (env : DL.Env) : T Out := forT (stepB g b) fg items env
def stepL (g : Tg) (tt : Te) (e : Ex) (env : DL.Env) (d : Dv) : T (Option Dv) := (T.ofO (evG g d (wipE env (slotsG g)))).bind fun env => (evT tt env).bind fun b => T.ite b ((evE e env).bind fun y => .ret (some y)) (.ret none)
def lcB (g : Tg) (tt : Te) (e : Ex) (env : DL.Env) (items : List Dv) : T Dv := T.grd (decide (items.length ≤ sizeLine)) ((lcT (stepL g tt e env) items).bind fun ds => .ret (.lst ds))
section
variable {a b : Sm} {x y : Ex} {t u : Te} {env e : DL.Env} {g : Tg} {fg : List Nat} {wi : Wk} {v d : Dv} {as : Ar} {i j k : Nat} {items : List Dv}
theorem s_seq : evS (.seq a b) env = thenS (evS a env) b := rfl
theorem s_nx : evS .nx env = .ret (.nx env) := rfl
theorem s_brk : evS .brk env = .ret (.bk env) := rfl
theorem s_cnt : evS .cnt env = .ret (.ct env) := rfl
theorem s_ret : evS (.ret x) env = (evE x env).bind fun d => .ret (.rt d) := rfl
theorem s_retN : evS .retN env = .ret (.rt .non) := rfl
theorem s_iff : evS (.iff t a b) env = (evT t env).bind fun z => iteS z a b env := rfl
theorem s_for : evS (.for wi g b fg) env = (evW wi env).bind fun items => forB g b fg items env := rfl
theorem s_asg : evS (.asg x g) env = (evE x env).bind fun d => (T.ofO (evG g d env)).bind fun env => .ret (.nx env) := rfl
theorem s_par2 : evS (.par2 i j as) env = (evA as env).bind fun ds => match ds with
    | [d, e] => .ret (.nx (setE (setE env i (some (.fz d))) j (some (.fz e))))
    | _ => .fail := rfl
theorem s_par3 : evS (.par3 i j k as) env = (evA as env).bind fun ds => match ds with
    | [d, e, f] => .ret (.nx (setE (setE (setE env i (some (.fz d))) j (some (.fz e))) k (some (.fz f))))
    | _ => .fail := rfl
theorem s_drop : evS (.drop x) env = (evE x env).bind fun _ => .ret (.nx env) := rfl
theorem s_newL : evS (.newL i as) env = (evA as env).bind fun ds => T.grd (decide (ds.length ≤ sizeLine)) (.ret (.nx (setE env i (some (.own (.lst ds)))))) := rfl
theorem s_newD : evS (.newD i) env = .ret (.nx (setE env i (some (.own (.dic []))))) := rfl
theorem s_app : evS (.app i x) env = (T.ofO (ownL env i)).bind fun ds => (evE x env).bind fun d => T.grd (decide (ds.length < sizeLine)) (.ret (.nx (setE env i (some (.own (.lst (ds ++ [d]))))))) := rfl
theorem s_ext : evS (.ext i x) env = (T.ofO (ownL env i)).bind fun ds => (evE x env).bind fun d => match d with
    | .lst es => T.grd (decide (ds.length + es.length ≤ sizeLine)) (.ret (.nx (setE env i (some (.own (.lst (ds ++ es)))))))
    | _ => .fail := rfl
theorem s_frz : evS (.frz i b) env = match getE env i with
    | some (.own o) => evS b (setE env i (some (.fz (obD o))))
    | _ => evS b env := rfl
theorem s_fgt {is : List Nat} : evS (.fgt is b) env = evS b (forE env is) := rfl
theorem thenS_nx : thenS (.ret (.nx e)) b = evS b e := rfl
theorem thenS_rt : thenS (.ret (.rt v)) b = .ret (.rt v) := rfl
theorem thenS_bk : thenS (.ret (.bk e)) b = .ret (.bk e) := rfl
theorem thenS_ct : thenS (.ret (.ct e)) b = .ret (.ct e) := rfl
theorem iteS_t : iteS true a b env = evS a env := rfl
theorem iteS_f : iteS false a b env = evS b env := rfl
theorem iteE_t : iteE true x y env = evE x env := rfl
theorem iteE_f : iteE false x y env = evE y env := rfl
theorem andE_t : andE true y env = evE y env := rfl
theorem andE_f : andE false y env = .ret (.bl false) := rfl
theorem andT_t : andTE true t env = evT t env := rfl
theorem andT_f : andTE false t env = .ret false := rfl
theorem orT_t : orTE true t env = .ret true := rfl
theorem orT_f : orTE false t env = evT t env := rfl
theorem e_con {v : V} {d : Dv} {h} : evE (.con v d h) env = .ret d := rfl
theorem e_var : evE (.var i) env = match getE env i with
    | some (.fz d) => .ret d
    | _ => .fail := rfl
theorem e_o1 {o : O1} : evE (.o1 o x) env = (evE x env).bind fun d => T.ofO (o.f d) := rfl
theorem e_o2 {o : O2} : evE (.o2 o x y) env = (evE x env).bind fun d => (evE y env).bind fun e => T.ofO (o.f d e) := rfl
theorem e_m2 {o : M2} : evE (.m2 o x y) env = (evE x env).bind fun d => T.grd (o.pre d) ((evE y env).bind fun e => T.ofO (o.f d e)) := rfl
theorem e_on {o : ON} : evE (.on o as) env = (evA as env).bind fun ds => T.ofO (o.f ds) := rfl
theorem e_ot {o : OT} : evE (.ot o as) env = (evA as env).bind fun ds => o.f ds := rfl
theorem e_ok {o : OK2} {bs : Ar} : evE (.ok o as bs) env = (evA as env).bind fun ds => (evA bs env).bind fun es => o.f ds es := rfl
theorem e_and : evE (.and x y) env = (evE x env).bind fun d => (T.ofO (isB d)).bind fun z => andE z y env := rfl
theorem e_ifx : evE (.ifx t x y) env = (evT t env).bind fun z => iteE z x y env := rfl
theorem e_sl {lo hi : Po} : evE (.sl x lo hi) env = (evE x env).bind fun d => (evO lo env).bind fun l => (evO hi env).bind fun h => T.ofO (slF d l h) := rfl
theorem e_lc : evE (.lc wi g t x) env = (evW wi env).bind fun items => lcB g t x env items := rfl
theorem e_disp {ps : Pr} : evE (.disp ps) env = (evP ps env).bind fun es => T.grd (decide (es.length ≤ 15)) (.ret (.dic (mergeD [] es))) := rfl
theorem e_bor : evE (.bor i x) env = match getE env i with
    | some (.own o) => (evE x (setE env i (some (.fz (obD o))))).bind fun d => T.grd (noL d) (.ret d)
    | _ => evE x env := rfl
theorem e_oix : evE (.oix i x) env = match getE env i with
    | some (.own (.lst ds)) => (evE x env).bind fun x => (T.ofO (isI x)).bind fun j => T.ofO (L2.atI ds j)
    | some (.fz d) => (evE x env).bind fun x => T.ofO (ixF d x)
    | _ => .fail := rfl
theorem t_tst : evT (.tst x) env = (evE x env).bind fun d => T.ofO (isB d) := rfl
theorem t_tb : evT (.tb x) env = (evE x env).bind fun d => T.ofO (isB d) := rfl
theorem t_tru : evT (.tru x) env = (evE x env).bind fun d => T.ofO (tru d) := rfl
theorem t_not : evT (.not t) env = (evT t env).bind fun b => .ret (!b) := rfl
theorem t_and : evT (.and t u) env = (evT t env).bind fun b => andTE b u env := rfl
theorem t_or : evT (.or t u) env = (evT t env).bind fun b => orTE b u env := rfl
theorem t_yes : evT .yes env = .ret true := rfl
theorem lcB_map {α : Type} {enc f : α → Dv} {l : List α} (hl : l.length ≤ 100000) (h : ∀ z ∈ l, stepL g t x env (enc z) = .ret (some (f z))) : lcB g t x env (l.map enc) = .ret (.lst (l.map f)) := by
  have : ∀ l : List α, (∀ z ∈ l, stepL g t x env (enc z) = .ret (some (f z))) → lcT (stepL g t x env) (l.map enc) = .ret (l.map f) := by
    intro l
    induction l with
    | nil => exact fun _ => rfl
    | cons z l ih =>
      intro h
      show (stepL g t x env (enc z)).bind _ = _
      rw [h z List.mem_cons_self, T.ret_bind, ih fun y hy => h y (List.mem_cons_of_mem _ hy)]
      rfl
  unfold lcB
  rw [List.length_map, decide_eq_true (by unfold sizeLine; omega), T.grd_true, this l h]
  rfl
/-- what stands before the next turn -/
def contE (fg : List Nat) : T Out → Option DL.Env
  | .ret (.nx e) => some (forE e fg)
  | .ret (.ct e) => some (forE e fg)
  | _ => none
theorem cont_nx : contE fg (.ret (.nx e)) = some (forE e fg) := rfl
theorem cont_ct : contE fg (.ret (.ct e)) = some (forE e fg) := rfl
theorem cont_of {m : T Out} (h : contE fg m = some e) : ∃ e', (m = .ret (.nx e') ∨ m = .ret (.ct e')) ∧ forE e' fg = e := by
  unfold contE at h
  split at h
  · exact ⟨_, .inl rfl, by injection h⟩
  · exact ⟨_, .inr rfl, by injection h⟩
  · cases h
theorem forB_at (E : Nat → DL.Env) (h0 : E 0 = env) (h : ∀ k (hk : k < items.length), contE fg (stepB g b items[k] (E k)) = some (E (k + 1))) : forB g b fg items env = .ret (.nx (E items.length)) := by
  subst h0
  exact forT_at E fun k hk => cont_of (h k hk)
theorem forB_rng {lo : Int} {n : Nat} (E : Nat → DL.Env) (h0 : E 0 = env) (h : ∀ k, k < n → contE fg (stepB g b (.int (lo + k)) (E k)) = some (E (k + 1))) : forB g b fg (rints lo n) env = .ret (.nx (E n)) := by
  subst h0
  exact forT_rng E fun k hk => cont_of (h k hk)
theorem forB_set {lo : Int} {n : Nat} (i : Nat) (X : Nat → Option Dx) (h0 : setE env i (X 0) = env) (h : ∀ k, k < n → contE fg (stepB g b (.int (lo + k)) (setE env i (X k))) = some (setE env i (X (k + 1)))) : forB g b fg (rints lo n) env = .ret (.nx (setE env i (X n))) := forB_rng (fun k => setE env i (X k)) h0 h
end
/-! ### rows that grow -/
theorem add_row {k : Nat} {f : Int → Bool} {b : Bool} (h : k < 1000) : addF (.str (rowS k f)) (.str (sgnS b)) = some (.str (rowS k f ++ sgnS b)) := by
  have : (rowS k f).length + (sgnS b).length ≤ sizeLine := by
    rw [rowS_len]
    show k + 1 ≤ 2 ^ 24
    omega
  rw [add_ss, decide_eq_true this]
  rfl
def mvA (a : Mo) (A : Int → Int → Bool) : Int → Int → Bool := fun i j => (if a.t.w = true then A (sg a.t.e (j - a.a)) (sg a.t.p (i - a.d)) else A (sg a.t.p (i - a.d)) (sg a.t.e (j - a.a))) != (a.t.w != a.t.s)
def mvM (a : Mo) (m w : Nat) : Nat := if a.t.w = true then w else m
def mvW (a : Mo) (m w : Nat) : Nat := if a.t.w = true then m else w
end MV

set_option Elab.async false
set_option linter.all false
set_option maxRecDepth 100000
set_option maxHeartbeats 2000000
/-! M4: loops that find, rotations, slices. -/
namespace MV
open PySem PySem.Spec L2 DL
section
variable {a b : Sm} {x y : Ex} {t u : Te} {env e : DL.Env} {g : Tg} {fg : List Nat} {items : List Dv}
theorem forB_find' : ∀ {n : Nat} {lo : Int} (c : Nat → Bool) (v : Nat → Dv), (∀ k, k < n → if c k = true then stepB g b (.int (lo + k)) env = .ret (.rt (v k)) else contE fg (stepB g b (.int (lo + k)) env) = some env) →
    forT (stepB g b) fg (rints lo n) env = match (List.range n).find? c with
      | some k => .ret (.rt (v k))
      | none => .ret (.nx env)
  | 0, lo, c, v, _ => rfl
  | n + 1, lo, c, v, h => by
    have h0 := h 0 (by omega)
    have er : rints lo (n + 1) = .int lo :: rints (lo + 1) n := by
      rw [rints_map, rints_map, List.range_succ_eq_map, List.map_cons, List.map_map]
      congr 1
      · simp
      · refine List.map_congr_left fun i _ => ?_
        show Dv.int (lo + ((i + 1 : Nat) : Int)) = Dv.int (lo + 1 + i)
        congr 1
        omega
    have ih := forB_find' (n := n) (lo := lo + 1) (fun k => c (k + 1)) (fun k => v (k + 1)) fun k hk => by
      have := h (k + 1) (by omega)
      rw [show lo + ((k + 1 : Nat) : Int) = lo + 1 + k from by omega] at this
      exact this
    rw [er, List.range_succ_eq_map, List.find?_cons]
    show (stepB g b (.int lo) env).bind _ = _
    rw [show lo + ((0 : Nat) : Int) = lo from by omega] at h0
    cases hc : c 0 with
    | true =>
      rw [hc, if_pos rfl] at h0
      rw [h0]
      rfl
    | false =>
      rw [hc, if_neg (by simp)] at h0
      obtain ⟨e', h1 | h1, h2⟩ := cont_of h0
      · rw [h1, T.ret_bind]
        dsimp only
        rw [h2, ih, List.find?_map]
        show _ = match Option.map Nat.succ ((List.range n).find? (c ∘ Nat.succ)) with | some k => _ | none => _
        cases q : (List.range n).find? (c ∘ Nat.succ) <;> (rw [show (List.range n).find? (fun k => c (k + 1)) = _ from q]; rfl)
      · rw [h1, T.ret_bind]
        dsimp only
        rw [h2, ih, List.find?_map]
        show _ = match Option.map Nat.succ ((List.range n).find? (c ∘ Nat.succ)) with | some k => _ | none => _
        cases q : (List.range n).find? (c ∘ Nat.succ) <;> (rw [show (List.range n).find? (fun k => c (k + 1)) = _ from q]; rfl)
theorem forB_find {n : Nat} {lo : Int} (c : Nat → Bool) (v : Nat → Dv) (h : ∀ k, k < n → if c k = true then stepB g b (.int (lo + k)) env = .ret (.rt (v k)) else contE fg (stepB g b (.int (lo + k)) env) = some env) :
    forB g b fg (rints lo n) env = match (List.range n).find? c with
      | some k => .ret (.rt (v k))
      | none => .ret (.nx env) := forB_find' c v h
theorem lcB_filter {α : Type} {enc f : α → Dv} (c : α → Bool) {l : List α} (hl : l.length ≤ 100000) (h : ∀ z ∈ l, stepL g t x env (enc z) = .ret (if c z = true then some (f z) else none)) : lcB g t x env (l.map enc) = .ret (.lst ((l.filter c).map f)) := by
  have : ∀ l : List α, (∀ z ∈ l, stepL g t x env (enc z) = .ret (if c z = true then some (f z) else none)) → lcT (stepL g t x env) (l.map enc) = .ret ((l.filter c).map f) := by
    intro l
    induction l with
    | nil => exact fun _ => rfl
    | cons z l ih =>
      intro h
      show (stepL g t x env (enc z)).bind _ = _
      rw [h z List.mem_cons_self, T.ret_bind, ih fun y hy => h y (List.mem_cons_of_mem _ hy), T.ret_bind, List.filter_cons]
      cases c z <;> rfl
  unfold lcB
  rw [List.length_map, decide_eq_true (by unfold sizeLine; omega), T.grd_true, this l h]
  rfl
end
section
variable {β : Type} {f : Int → β}
theorem rot_eq {m k : Nat} (hm : 1 ≤ m) (hk : k ≤ m) (h : Per f m) : ((List.range m).map fun i : Nat => f i).drop k ++ ((List.range m).map fun i : Nat => f i).take k = (List.range m).map fun i : Nat => f ((i : Int) + k) := by
  apply List.ext_getElem
  · simp; omega
  · intro i h1 h2
    rw [List.getElem_append]
    simp only [List.length_map, List.length_range] at h2
    split
    · simp
      congr 1
      omega
    · rename_i z
      simp at z
      simp
      have := h ((i : Int) + k - m)
      rw [show (i : Int) + k - m + m = i + k from by omega] at this
      rw [this]
      congr 1
      omega
theorem per_on {m : Nat} {k : Int} (hm : 1 ≤ m) (h : Per f m) (hs : ∀ i : Nat, i < m → f ((i : Int) + k) = f i) : Per f k := by
  intro i
  have h0 := Int.emod_nonneg i (by omega : (m : Int) ≠ 0)
  have h1 := Int.emod_lt_of_pos i (by omega : 0 < (m : Int))
  obtain ⟨r, hr⟩ := Int.eq_ofNat_of_zero_le h0
  have e1 := h.all (i / m) (i % m)
  have e2 := h.all (i / m) (i % m + k)
  have e3 := Int.mul_ediv_add_emod i m
  rw [show i % (m : Int) + m * (i / m) = i from by omega] at e1
  rw [show i % (m : Int) + k + m * (i / m) = i + k from by omega] at e2
  rw [e2, e1, hr]
  exact hs r (by omega)
theorem rot_iff {m k : Nat} (hm : 1 ≤ m) (hk : k ≤ m) (h : Per f m) : (((List.range m).map fun i : Nat => f i).drop k ++ ((List.range m).map fun i : Nat => f i).take k = (List.range m).map fun i : Nat => f i) ↔ Per f k := by
  rw [rot_eq hm hk h]
  constructor
  · intro z
    refine per_on hm h fun i hi => ?_
    have := congrArg (fun l => l[i]?) z
    simpa [hi] using this
  · intro z
    exact List.map_congr_left fun i _ => z i
end
/-! ### equal lists of texts -/
theorem eqPA_str : ∀ (l k : List Str), eqPA (l.map Dv.str) (k.map Dv.str) = decide (l = k)
  | [], [] => by simp [eqPA]
  | [], b :: k => by simp [eqPA]
  | a :: l, [] => by simp [eqPA]
  | a :: l, b :: k => by
    simp only [List.map_cons, eqPA, eqP, eqPA_str l k, List.cons.injEq, str_beq, Bool.decide_and]
theorem shA_str (n : Nat) : ∀ l : List Str, (∀ s ∈ l, PyData.strOk s = true) → shA n (l.map Dv.str) = true
  | [], _ => by simp [shA]
  | a :: l, h => by
    simp only [List.map_cons, shA, shD, Bool.and_eq_true]
    exact ⟨by cases n <;> simpa [shD] using h a List.mem_cons_self, shA_str n l fun s hs => h s (List.mem_cons_of_mem _ hs)⟩
theorem eq_strs {l k : List Str} (hl : ∀ s ∈ l, PyData.strOk s = true) (hk : ∀ s ∈ k, PyData.strOk s = true) : eqF (.tup (l.map Dv.str)) (.tup (k.map Dv.str)) = some (decide (l = k)) := by
  cases k with
  | nil => cases l <;> simp
  | cons b k =>
    show eqG _ _ = _
    unfold eqG
    have h1 : shD 60 (.tup (l.map Dv.str)) = true := by simpa [shD] using shA_str 59 l hl
    have h2 : shD 60 (.tup ((b :: k).map Dv.str)) = true := by simpa [shD] using shA_str 59 (b :: k) hk
    rw [h1, h2]
    show some (eqP _ _) = _
    simp only [eqP, eqPA_str]
theorem ne_strs {l k : List Str} (hl : ∀ s ∈ l, PyData.strOk s = true) (hk : ∀ s ∈ k, PyData.strOk s = true) : neF (.tup (l.map Dv.str)) (.tup (k.map Dv.str)) = some (!decide (l = k)) := by
  show gO _ _ = _
  have h1 : shD 60 (.tup (l.map Dv.str)) = true := by simpa [shD] using shA_str 59 l hl
  have h2 : shD 60 (.tup (k.map Dv.str)) = true := by simpa [shD] using shA_str 59 k hk
  rw [h1, h2]
  show some (!eqP _ _) = _
  simp only [eqP, eqPA_str]
def rows (m w : Nat) (A : Int → Int → Bool) : List Str := (List.range m).map fun i : Nat => rowS w (A i)
theorem pic_rows (m w : Nat) (A : Int → Int → Bool) : pic m w A = .tup ((rows m w A).map Dv.str) := by
  unfold pic rows
  rw [List.map_map]
  rfl
theorem row_ok (w : Nat) (f : Int → Bool) : PyData.strOk (rowS w f) = true := by
  unfold PyData.strOk rowS
  simp
  intro j _
  unfold sgnC
  split <;> omega
theorem rows_ok (m w : Nat) (A : Int → Int → Bool) : ∀ s ∈ rows m w A, PyData.strOk s = true := by
  intro s hs
  obtain ⟨i, _, rfl⟩ := List.mem_map.mp hs
  exact row_ok w _
end MV

set_option Elab.async false
set_option linter.all false
set_option maxRecDepth 100000
set_option maxHeartbeats 2000000
/-! M5: pictures moved. -/
namespace MV
open PySem PySem.Spec L2 DL
def fl (A : Int → Int → Bool) : Int → Int → Bool := fun j i => A i j
theorem Per.sg {β : Type} {f : Int → β} {k : Int} (h : Per f k) (b : Bool) (x : Int) : f (sg b (x + k)) = f (sg b x) := by
  cases b
  · exact h x
  · show f (-(x + k)) = f (-x)
    have := h (-(x + k))
    rw [← this]
    congr 1
    omega
section
variable {A : Int → Int → Bool} {a b : Mo} {m w : Nat}
theorem per_mv1 {k : Int} (h : Per (if a.t.w = true then fl A else A) k) : Per (mvA a A) k := by
  intro i
  funext j
  unfold mvA
  rw [show i + k - a.d = i - a.d + k from by omega]
  cases hw : a.t.w with
  | true =>
    rw [if_pos hw] at h
    simp only [if_true]
    rw [show A (MV.sg a.t.e (j - a.a)) (MV.sg a.t.p (i - a.d + k)) = A (MV.sg a.t.e (j - a.a)) (MV.sg a.t.p (i - a.d)) from congrFun (h.sg a.t.p (i - a.d)) _]
  | false =>
    rw [if_neg (by simp [hw])] at h
    simp only [Bool.false_eq_true, if_false]
    rw [h.sg]
theorem per_mv2 {k : Int} (h : Per (if a.t.w = true then A else fl A) k) : Per (fl (mvA a A)) k := by
  intro j
  funext i
  show mvA a A i (j + k) = mvA a A i j
  unfold mvA
  rw [show j + k - a.a = j - a.a + k from by omega]
  cases hw : a.t.w with
  | true =>
    rw [if_pos hw] at h
    simp only [if_true]
    rw [h.sg]
  | false =>
    rw [if_neg (by simp [hw])] at h
    simp only [Bool.false_eq_true, if_false]
    rw [show A (MV.sg a.t.p (i - a.d)) (MV.sg a.t.e (j - a.a + k)) = A (MV.sg a.t.p (i - a.d)) (MV.sg a.t.e (j - a.a)) from congrFun (h.sg a.t.e (j - a.a)) _]
theorem mvA_one : mvA one0 A = A := by
  funext i j
  simp [mvA, one0, sg]
theorem mvA_beh : mvA b (mvA a A) = mvA (beh a b) A := by
  obtain ⟨⟨e1, p1, s1, w1⟩, d1, a1⟩ := a
  obtain ⟨⟨e2, p2, s2, w2⟩, d2, a2⟩ := b
  funext i j
  have hx : ∀ (X Y : Bool), X = Y → ((X != (w1 != s1)) != (w2 != s2)) = (Y != ((w1 != w2) != (s1 != s2))) := by
    intro X Y h
    subst h
    cases X <;> cases w1 <;> cases w2 <;> cases s1 <;> cases s2 <;> rfl
  have hy : ∀ (c1 c2 c3 c4 : Int), c1 = c2 → c3 = c4 → A c1 c3 = A c2 c4 := by
    intro c1 c2 c3 c4 h1 h2
    rw [h1, h2]
  cases w2
  · refine hx _ _ ?_
    cases w1 <;> cases e1 <;> cases p1 <;> cases e2 <;> cases p2 <;> simp [beh, behT, sg] <;> apply hy <;> omega
  · refine hx _ _ ?_
    cases w1 <;> cases e1 <;> cases p1 <;> cases e2 <;> cases p2 <;> simp [beh, behT, sg] <;> apply hy <;> omega
theorem mvA_back : mvA (back a) (mvA a A) = A := by rw [mvA_beh, beh_back, mvA_one]
theorem back_w : (back a).t.w = a.t.w := by
  unfold back
  cases h : a.t.w <;> simp [h]
theorem per_mv1' {k : Int} (h : Per (mvA a A) k) : Per (if a.t.w = true then fl A else A) k := by
  cases hw : a.t.w with
  | true =>
    have := per_mv2 (a := back a) (A := mvA a A) (k := k) (by rw [back_w, hw]; exact h)
    rw [mvA_back] at this
    exact this
  | false =>
    have := per_mv1 (a := back a) (A := mvA a A) (k := k) (by rw [back_w, hw]; exact h)
    rw [mvA_back] at this
    exact this
theorem per_mv2' {k : Int} (h : Per (fl (mvA a A)) k) : Per (if a.t.w = true then A else fl A) k := by
  cases hw : a.t.w with
  | true =>
    have := per_mv1 (a := back a) (A := mvA a A) (k := k) (by rw [back_w, hw]; exact h)
    rw [mvA_back] at this
    exact this
  | false =>
    have := per_mv2 (a := back a) (A := mvA a A) (k := k) (by rw [back_w, hw]; exact h)
    rw [mvA_back] at this
    exact this
theorem Pc.mv (P : Pc m w A) (a : Mo) : Pc (mvM a m w) (mvW a m w) (mvA a A) := by
  unfold mvM mvW
  cases hw : a.t.w with
  | true => exact ⟨P.w1, P.w2, P.m1, P.m2, per_mv1 (by rw [hw]; exact P.pj), per_mv2 (by rw [hw]; exact P.pi)⟩
  | false => exact ⟨P.m1, P.m2, P.w1, P.w2, per_mv1 (by rw [hw]; exact P.pi), per_mv2 (by rw [hw]; exact P.pj)⟩
theorem mvM_beh : mvM b (mvM a m w) (mvW a m w) = mvM (beh a b) m w := by
  show mvM b (mvM a m w) (mvW a m w) = if (a.t.w != b.t.w) = true then w else m
  unfold mvM mvW
  cases a.t.w <;> cases b.t.w <;> rfl
theorem mvW_beh : mvW b (mvM a m w) (mvW a m w) = mvW (beh a b) m w := by
  show mvW b (mvM a m w) (mvW a m w) = if (a.t.w != b.t.w) = true then m else w
  unfold mvM mvW
  cases a.t.w <;> cases b.t.w <;> rfl
theorem least_mv1 {p q : Nat} (L : Least A p) (K : Least (fl A) q) : Least (mvA a A) (if a.t.w = true then q else p) := by
  cases hw : a.t.w with
  | true => exact ⟨K.pos, per_mv1 (by rw [hw]; exact K.per), fun r h1 h2 => K.le r h1 (by have := per_mv1' h2; rw [hw] at this; exact this)⟩
  | false => exact ⟨L.pos, per_mv1 (by rw [hw]; exact L.per), fun r h1 h2 => L.le r h1 (by have := per_mv1' h2; rw [hw] at this; exact this)⟩
theorem least_mv2 {p q : Nat} (L : Least A p) (K : Least (fl A) q) : Least (fl (mvA a A)) (if a.t.w = true then p else q) := by
  cases hw : a.t.w with
  | true => exact ⟨L.pos, per_mv2 (by rw [hw]; exact L.per), fun r h1 h2 => L.le r h1 (by have := per_mv2' h2; rw [hw] at this; exact this)⟩
  | false => exact ⟨K.pos, per_mv2 (by rw [hw]; exact K.per), fun r h1 h2 => K.le r h1 (by have := per_mv2' h2; rw [hw] at this; exact this)⟩
/-- strand s lies over strand r, where they cross -/
def over (A : Int → Int → Bool) (s r : Sp0) : Bool := if s.k = true then A r.i s.i else !A s.i r.i
theorem over_led (s r : Sp0) (h : s.k ≠ r.k) : over (mvA a A) (led a s) (led a r) = (over A s r != a.t.s) := by
  obtain ⟨⟨e, p, s1, w⟩, d, c⟩ := a
  obtain ⟨k, i⟩ := s
  obtain ⟨l, j⟩ := r
  have x1 : ∀ b (i : Int), sg b (sg b i) = i := fun b i => by cases b <;> simp [sg]
  cases k <;> cases l <;> simp at h
  · cases w <;> cases s1 <;> simp [over, led, mvA, x1]
  · cases w <;> cases s1 <;> simp [over, led, mvA, x1]
theorem led_k (s : Sp0) : (led a s).k = (s.k != a.t.w) := by
  unfold led
  cases h : (s.k != a.t.w) <;> simp [h]
end
end MV

set_option Elab.async false
set_option linter.all false
set_option maxRecDepth 100000
set_option maxHeartbeats 2000000
namespace K60
open PySem PySem.Spec L2 DL MV
theorem F_turn_behind_eq (a b : Tn) : F_turn_behind [.str (tx a), .str (tx b)] = .ret (.str (tx (behT a b))) := by
  rcases a with ⟨_ | _, _ | _, _ | _, _ | _⟩ <;> rcases b with ⟨_ | _, _ | _, _ | _, _ | _⟩ <;> kernel_rfl
theorem F__law_led_eq (m : Mo) (s : Sp0) : F__law_led [mo m, spot s] = .ret (spot (led m s)) := by
  obtain ⟨⟨e, p, s1, w⟩, d, a⟩ := m
  obtain ⟨k, i⟩ := s
  have h : (0 : Int) - i = -i := by omega
  have : F__law_led [mo ⟨⟨e, p, s1, w⟩, d, a⟩, spot ⟨k, i⟩] = .ret (if (k != w) = true then .tup [.str "end", .int ((if e = true then 0 - i else i) + a)] else .tup [.str "pick", .int ((if p = true then 0 - i else i) + d)]) := by
    cases e <;> cases p <;> cases s1 <;> cases w <;> cases k <;> kernel_rfl
  rw [this, h]
  cases e <;> cases p <;> cases w <;> cases k <;> rfl
theorem F_behind_eq (m k : Mo) : F_behind [mo m, mo k] = .ret (mo (beh m k)) := by
  obtain ⟨⟨e, p, s1, w⟩, d, a⟩ := m
  obtain ⟨⟨e2, p2, s2, w2⟩, d2, a2⟩ := k
  cases e <;> cases p <;> cases s1 <;> cases w <;> cases e2 <;> cases p2 <;> cases s2 <;> cases w2 <;> kernel_rfl
theorem F_back_of_eq (m : Mo) : F_back_of [mo m] = .ret (mo (back m)) := by
  obtain ⟨⟨e, p, s1, w⟩, d, a⟩ := m
  cases e <;> cases p <;> cases s1 <;> cases w <;> kernel_rfl
end K60

set_option Elab.async false
set_option linter.all false
set_option maxRecDepth 100000
set_option maxHeartbeats 2000000
namespace K60
open PySem PySem.Spec L2 DL MV
theorem F_strand_behind_eq (M W : Nat) (m : Mo) (s : Sp0) (hM : 1 ≤ M) (hW : 1 ≤ W) : F_strand_behind [.tup [.int M, .int W], mo m, spot s] = .ret (spot ⟨(led m s).k, (led m s).i % (if (led m s).k = true then (if m.t.w = true then M else W : Nat) else (if m.t.w = true then W else M : Nat))⟩) := by
  unfold F_strand_behind q_strand_behind runF
  obtain ⟨⟨e, p, s1, w⟩, d, a⟩ := m
  obtain ⟨k, i⟩ := s
  cases w <;> cases k <;> cases e <;> cases p <;> simp -implicitDefEqProofs [s_seq, s_nx, s_brk, s_cnt, s_ret, s_retN, s_iff, s_for, s_asg, s_par2, s_par3, s_drop, s_newL, s_newD, s_app, s_ext, s_frz, s_fgt, thenS_nx, thenS_rt, thenS_bk, thenS_ct, iteS_t, iteS_f, iteE_t, iteE_f, andE_t, andE_f, andT_t, andT_f, orT_t, orT_f, e_con, e_var, e_o1, e_o2, e_m2, e_on, e_ot, e_ok, e_and, e_ifx, e_sl, e_lc, e_disp, e_bor, e_oix, t_tst, t_tb, t_tru, t_not, t_and, t_or, t_yes, evA, evO, evW, evP, evG, evGs, getE, setE, forE, wipE, envS, outV, outI, in_e, in_p, in_s, in_w, kd_end', pe_, ee_, kt_, kf_, at_0, at_1, at_2, ownL, List.replicate, isB, sizeLine, cont_nx, cont_ct, -in_ss, -mod_ii, -rng1_i, -rng2_i, mo, spot, mod_n hM, mod_n hW, led, sg]
theorem lk_other (b : Bool) : (List.lookup (⟨#[sgnC b]⟩ : Str) tab_OTHER).isSome = true := by cases b <;> decide +kernel
theorem bls_true {α : Type} (g : α → Bool) : ∀ l : List α, blsOf (l.map fun z => Dv.bl (g z)) = some (l.map g)
  | [] => rfl
  | z :: l => by
    show (match blsOf (l.map fun z => Dv.bl (g z)) with | some ns => some (g z :: ns) | none => none) = _
    rw [bls_true g l]
    rfl
theorem all_map {α : Type} (g : α → Bool) (l : List α) : allF [.lst (l.map fun z => Dv.bl (g z))] = some (.bl (l.all g)) := by
  unfold allF
  simp only [bls_true g l, List.all_map]
  rfl
theorem F_is_pick_eq {w : Nat} {f : Int → Bool} (h : 1 ≤ w) (h2 : w ≤ 1000) : F_is_pick [.str (rowS w f)] = .ret (.bl true) := by
  have h0 : (rowS w f == ("" : Str)) = false := by
    rw [beq_eq_false_iff_ne]
    intro z
    have := congrArg Str.length z
    rw [rowS_len] at this
    have : w = 0 := this
    omega
  unfold F_is_pick q_is_pick runF
  simp -implicitDefEqProofs [s_seq, s_nx, s_brk, s_cnt, s_ret, s_retN, s_iff, s_for, s_asg, s_par2, s_par3, s_drop, s_newL, s_newD, s_app, s_ext, s_frz, s_fgt, thenS_nx, thenS_rt, thenS_bk, thenS_ct, iteS_t, iteS_f, iteE_t, iteE_f, andE_t, andE_f, andT_t, andT_f, orT_t, orT_f, e_con, e_var, e_o1, e_o2, e_m2, e_on, e_ot, e_ok, e_and, e_ifx, e_sl, e_lc, e_disp, e_bor, e_oix, t_tst, t_tb, t_tru, t_not, t_and, t_or, t_yes, evA, evO, evW, evP, evG, evGs, getE, setE, forE, wipE, envS, outV, outI, in_e, in_p, in_s, in_w, kd_end', pe_, ee_, kt_, kf_, at_0, at_1, at_2, ownL, List.replicate, isB, sizeLine, cont_nx, cont_ct, -in_ss, -mod_ii, -rng1_i, -rng2_i, isiF, tyD, isK, signs_map, rowS_list, h0]
  rw [← List.map_map, lcB_map (f := fun _ => .bl true) (by simp; omega) ?_]
  · have := all_map (fun _ => true) ((List.range w).map fun j => sgnC (f (j : Nat)))
    simp only [List.map_map] at this
    simp -implicitDefEqProofs [s_seq, s_nx, s_brk, s_cnt, s_ret, s_retN, s_iff, s_for, s_asg, s_par2, s_par3, s_drop, s_newL, s_newD, s_app, s_ext, s_frz, s_fgt, thenS_nx, thenS_rt, thenS_bk, thenS_ct, iteS_t, iteS_f, iteE_t, iteE_f, andE_t, andE_f, andT_t, andT_f, orT_t, orT_f, e_con, e_var, e_o1, e_o2, e_m2, e_on, e_ot, e_ok, e_and, e_ifx, e_sl, e_lc, e_disp, e_bor, e_oix, t_tst, t_tb, t_tru, t_not, t_and, t_or, t_yes, evA, evO, evW, evP, evG, evGs, getE, setE, forE, wipE, envS, outV, outI, in_e, in_p, in_s, in_w, kd_end', pe_, ee_, kt_, kf_, at_0, at_1, at_2, ownL, List.replicate, isB, sizeLine, cont_nx, cont_ct, -in_ss, -mod_ii, -rng1_i, -rng2_i, this]
  · intro z hz
    obtain ⟨j, _, rfl⟩ := List.mem_map.mp hz
    simp -implicitDefEqProofs [s_seq, s_nx, s_brk, s_cnt, s_ret, s_retN, s_iff, s_for, s_asg, s_par2, s_par3, s_drop, s_newL, s_newD, s_app, s_ext, s_frz, s_fgt, thenS_nx, thenS_rt, thenS_bk, thenS_ct, iteS_t, iteS_f, iteE_t, iteE_f, andE_t, andE_f, andT_t, andT_f, orT_t, orT_f, e_con, e_var, e_o1, e_o2, e_m2, e_on, e_ot, e_ok, e_and, e_ifx, e_sl, e_lc, e_disp, e_bor, e_oix, t_tst, t_tb, t_tru, t_not, t_and, t_or, t_yes, evA, evO, evW, evP, evG, evGs, getE, setE, forE, wipE, envS, outV, outI, in_e, in_p, in_s, in_w, kd_end', pe_, ee_, kt_, kf_, at_0, at_1, at_2, ownL, List.replicate, isB, sizeLine, cont_nx, cont_ct, -in_ss, -mod_ii, -rng1_i, -rng2_i, stepL, slotsG, kinF, lk_other]
theorem F_other_eq (b : Bool) : F__law_other [.str (sgnS b)] = .ret (.str (sgnS (!b))) := by cases b <;> kernel_rfl
theorem opp_eq (b : Bool) : kgetF tab_OPPOSITE (.str (sgnS b)) = some (.str (sgnS (!b))) := by cases b <;> kernel_rfl
theorem join_fold : ∀ (ps : List Str) (acc : Array Nat), (ps.foldl (fun acc p => acc ++ ("" : Str).cps ++ p.cps) acc).toList = acc.toList ++ ps.flatMap fun p => p.cps.toList
  | [], acc => by simp
  | p :: ps, acc => by
    rw [List.foldl_cons, join_fold ps]
    simp
    rfl
theorem join_nil (ps : List Str) : (Txt.join "" ps).cps.toList = ps.flatMap fun p => p.cps.toList := by
  show (Builtin.Str.glued "" ps).cps.toList = _
  unfold Builtin.Str.glued
  cases ps with
  | nil => rfl
  | cons p ps => simpa using join_fold ps p.cps
theorem strs_mapS {α : Type} (g : α → Str) : ∀ l : List α, strsOf (l.map fun z => Dv.str (g z)) = some (l.map g)
  | [] => rfl
  | z :: l => by
    show (match strsOf (l.map fun z => Dv.str (g z)) with | some ns => some (g z :: ns) | none => none) = _
    rw [strs_mapS g l]
    rfl
theorem fm_one {α β : Type} (g : α → β) : ∀ l : List α, (l.flatMap fun j => [g j]) = l.map g
  | [] => rfl
  | z :: l => by rw [List.flatMap_cons, fm_one g l]; rfl
theorem sum_one {α : Type} : ∀ l : List α, (l.map fun _ => 1).sum = l.length
  | [] => rfl
  | z :: l => by rw [List.map_cons, List.sum_cons, sum_one l, List.length_cons]; omega
theorem join_row {n : Nat} {f : Int → Bool} (h : n ≤ 1000) : joinF (.str "") (.lst ((List.range n).map fun j => .str (sgnS (f (j : Nat))))) = some (.str (rowS n f)) := by
  unfold joinF strsD
  simp only [strs_mapS (fun j : Nat => sgnS (f j))]
  have e : Txt.join "" ((List.range n).map fun j : Nat => sgnS (f j)) = rowS n f := by
    refine str_eq ?_
    rw [join_nil, rowS_list, List.flatMap_map]
    show (List.range n).flatMap (fun j => [sgnC (f (j : Nat))]) = _
    exact fm_one _ _
  have l : (((List.range n).map fun j : Nat => sgnS (f j)).map (·.length)).sum + ((List.range n).map fun j : Nat => sgnS (f j)).length * ("" : Str).length ≤ 16777216 := by
    have h1 : (((List.range n).map fun j : Nat => sgnS (f j)).map (·.length)) = (List.range n).map fun _ => 1 := by
      rw [List.map_map]; rfl
    rw [h1]
    have h2 : (("" : Str)).length = 0 := rfl
    rw [h2, sum_one]
    simp
    omega
  rw [e, decide_eq_true l]
  rfl
theorem F__law_moved_eq {m w : Nat} {A : Int → Int → Bool} (P : Pc m w A) (a : Mo) : F__law_moved [pic m w A, mo a] = .ret (pic (mvM a m w) (mvW a m w) (mvA a A)) := by
  obtain ⟨⟨e, p, s, w⟩, d, c⟩ := a
  unfold F__law_moved q__law_moved runF
  cases w
  · simp -implicitDefEqProofs [s_seq, s_nx, s_brk, s_cnt, s_ret, s_retN, s_iff, s_for, s_asg, s_par2, s_par3, s_drop, s_newL, s_newD, s_app, s_ext, s_frz, s_fgt, thenS_nx, thenS_rt, thenS_bk, thenS_ct, iteS_t, iteS_f, iteE_t, iteE_f, andE_t, andE_f, andT_t, andT_f, orT_t, orT_f, e_con, e_var, e_o1, e_o2, e_m2, e_on, e_ot, e_ok, e_and, e_ifx, e_sl, e_lc, e_disp, e_bor, e_oix, t_tst, t_tb, t_tru, t_not, t_and, t_or, t_yes, evA, evO, evW, evP, evG, evGs, getE, setE, forE, wipE, envS, outV, outI, in_e, in_p, in_s, in_w, kd_end', pe_, ee_, kt_, kf_, at_0, at_1, at_2, ownL, List.replicate, isB, sizeLine, cont_nx, cont_ct, -in_ss, -mod_ii, -rng1_i, -rng2_i, mo, len_pic, ix_pic0 P.m1, len_row P.w2, rng_n P.m2, rng_n P.w2]
    rw [forB_set 7 (fun i => some (.own (.lst ((List.range i).map fun i => .str (rowS w (mvA ⟨⟨e, p, s, false⟩, d, c⟩ A (i : Nat))))))) rfl ?_]
    · simp -implicitDefEqProofs [s_seq, s_nx, s_brk, s_cnt, s_ret, s_retN, s_iff, s_for, s_asg, s_par2, s_par3, s_drop, s_newL, s_newD, s_app, s_ext, s_frz, s_fgt, thenS_nx, thenS_rt, thenS_bk, thenS_ct, iteS_t, iteS_f, iteE_t, iteE_f, andE_t, andE_f, andT_t, andT_f, orT_t, orT_f, e_con, e_var, e_o1, e_o2, e_m2, e_on, e_ot, e_ok, e_and, e_ifx, e_sl, e_lc, e_disp, e_bor, e_oix, t_tst, t_tb, t_tru, t_not, t_and, t_or, t_yes, evA, evO, evW, evP, evG, evGs, getE, setE, forE, wipE, envS, outV, outI, in_e, in_p, in_s, in_w, kd_end', pe_, ee_, kt_, kf_, at_0, at_1, at_2, ownL, List.replicate, isB, sizeLine, cont_nx, cont_ct, -in_ss, -mod_ii, -rng1_i, -rng2_i, mvM, mvW, obD, pic]
    · intro i hi
      have hi' : i < 16777216 := by have := P.m2; omega
      simp -implicitDefEqProofs [s_seq, s_nx, s_brk, s_cnt, s_ret, s_retN, s_iff, s_for, s_asg, s_par2, s_par3, s_drop, s_newL, s_newD, s_app, s_ext, s_frz, s_fgt, thenS_nx, thenS_rt, thenS_bk, thenS_ct, iteS_t, iteS_f, iteE_t, iteE_f, andE_t, andE_f, andT_t, andT_f, orT_t, orT_f, e_con, e_var, e_o1, e_o2, e_m2, e_on, e_ot, e_ok, e_and, e_ifx, e_sl, e_lc, e_disp, e_bor, e_oix, t_tst, t_tb, t_tru, t_not, t_and, t_or, t_yes, evA, evO, evW, evP, evG, evGs, getE, setE, forE, wipE, envS, outV, outI, in_e, in_p, in_s, in_w, kd_end', pe_, ee_, kt_, kf_, at_0, at_1, at_2, ownL, List.replicate, isB, sizeLine, cont_nx, cont_ct, -in_ss, -mod_ii, -rng1_i, -rng2_i, stepB, rng_n P.w2, rng_n P.m2]
      rw [forB_set 9 (fun k => some (.fz (.str (rowS k (mvA ⟨⟨e, p, s, false⟩, d, c⟩ A i))))) (by rw [rowS_zero]; rfl) ?_]
      · simp -implicitDefEqProofs [s_seq, s_nx, s_brk, s_cnt, s_ret, s_retN, s_iff, s_for, s_asg, s_par2, s_par3, s_drop, s_newL, s_newD, s_app, s_ext, s_frz, s_fgt, thenS_nx, thenS_rt, thenS_bk, thenS_ct, iteS_t, iteS_f, iteE_t, iteE_f, andE_t, andE_f, andT_t, andT_f, orT_t, orT_f, e_con, e_var, e_o1, e_o2, e_m2, e_on, e_ot, e_ok, e_and, e_ifx, e_sl, e_lc, e_disp, e_bor, e_oix, t_tst, t_tb, t_tru, t_not, t_and, t_or, t_yes, evA, evO, evW, evP, evG, evGs, getE, setE, forE, wipE, envS, outV, outI, in_e, in_p, in_s, in_w, kd_end', pe_, ee_, kt_, kf_, at_0, at_1, at_2, ownL, List.replicate, isB, sizeLine, cont_nx, cont_ct, -in_ss, -mod_ii, -rng1_i, -rng2_i, List.range_succ, hi']
      · intro j hj
        cases e <;> cases p <;> cases s <;> simp -implicitDefEqProofs [s_seq, s_nx, s_brk, s_cnt, s_ret, s_retN, s_iff, s_for, s_asg, s_par2, s_par3, s_drop, s_newL, s_newD, s_app, s_ext, s_frz, s_fgt, thenS_nx, thenS_rt, thenS_bk, thenS_ct, iteS_t, iteS_f, iteE_t, iteE_f, andE_t, andE_f, andT_t, andT_f, orT_t, orT_f, e_con, e_var, e_o1, e_o2, e_m2, e_on, e_ot, e_ok, e_and, e_ifx, e_sl, e_lc, e_disp, e_bor, e_oix, t_tst, t_tb, t_tru, t_not, t_and, t_or, t_yes, evA, evO, evW, evP, evG, evGs, getE, setE, forE, wipE, envS, outV, outI, in_e, in_p, in_s, in_w, kd_end', pe_, ee_, kt_, kf_, at_0, at_1, at_2, ownL, List.replicate, isB, sizeLine, cont_nx, cont_ct, -in_ss, -mod_ii, -rng1_i, -rng2_i, stepB, len_pic, ix_pic0 P.m1, len_row P.w2, mod_n P.m1, mod_n P.w1, ix_picM P.m1, ix_rowM P.w2 P.w1, P.I, P.J, F_other_eq, add_row (Nat.lt_of_lt_of_le hj P.w2), rowS_succ, mvA, sg]
  · simp -implicitDefEqProofs [s_seq, s_nx, s_brk, s_cnt, s_ret, s_retN, s_iff, s_for, s_asg, s_par2, s_par3, s_drop, s_newL, s_newD, s_app, s_ext, s_frz, s_fgt, thenS_nx, thenS_rt, thenS_bk, thenS_ct, iteS_t, iteS_f, iteE_t, iteE_f, andE_t, andE_f, andT_t, andT_f, orT_t, orT_f, e_con, e_var, e_o1, e_o2, e_m2, e_on, e_ot, e_ok, e_and, e_ifx, e_sl, e_lc, e_disp, e_bor, e_oix, t_tst, t_tb, t_tru, t_not, t_and, t_or, t_yes, evA, evO, evW, evP, evG, evGs, getE, setE, forE, wipE, envS, outV, outI, in_e, in_p, in_s, in_w, kd_end', pe_, ee_, kt_, kf_, at_0, at_1, at_2, ownL, List.replicate, isB, sizeLine, cont_nx, cont_ct, -in_ss, -mod_ii, -rng1_i, -rng2_i, mo, len_pic, ix_pic0 P.m1, len_row P.w2, rng_n P.m2, rng_n P.w2]
    rw [forB_set 7 (fun i => some (.own (.lst ((List.range i).map fun i => .str (rowS m (mvA ⟨⟨e, p, s, true⟩, d, c⟩ A (i : Nat))))))) rfl ?_]
    · simp -implicitDefEqProofs [s_seq, s_nx, s_brk, s_cnt, s_ret, s_retN, s_iff, s_for, s_asg, s_par2, s_par3, s_drop, s_newL, s_newD, s_app, s_ext, s_frz, s_fgt, thenS_nx, thenS_rt, thenS_bk, thenS_ct, iteS_t, iteS_f, iteE_t, iteE_f, andE_t, andE_f, andT_t, andT_f, orT_t, orT_f, e_con, e_var, e_o1, e_o2, e_m2, e_on, e_ot, e_ok, e_and, e_ifx, e_sl, e_lc, e_disp, e_bor, e_oix, t_tst, t_tb, t_tru, t_not, t_and, t_or, t_yes, evA, evO, evW, evP, evG, evGs, getE, setE, forE, wipE, envS, outV, outI, in_e, in_p, in_s, in_w, kd_end', pe_, ee_, kt_, kf_, at_0, at_1, at_2, ownL, List.replicate, isB, sizeLine, cont_nx, cont_ct, -in_ss, -mod_ii, -rng1_i, -rng2_i, mvM, mvW, obD, pic]
    · intro i hi
      have hi' : i < 16777216 := by have := P.w2; omega
      simp -implicitDefEqProofs [s_seq, s_nx, s_brk, s_cnt, s_ret, s_retN, s_iff, s_for, s_asg, s_par2, s_par3, s_drop, s_newL, s_newD, s_app, s_ext, s_frz, s_fgt, thenS_nx, thenS_rt, thenS_bk, thenS_ct, iteS_t, iteS_f, iteE_t, iteE_f, andE_t, andE_f, andT_t, andT_f, orT_t, orT_f, e_con, e_var, e_o1, e_o2, e_m2, e_on, e_ot, e_ok, e_and, e_ifx, e_sl, e_lc, e_disp, e_bor, e_oix, t_tst, t_tb, t_tru, t_not, t_and, t_or, t_yes, evA, evO, evW, evP, evG, evGs, getE, setE, forE, wipE, envS, outV, outI, in_e, in_p, in_s, in_w, kd_end', pe_, ee_, kt_, kf_, at_0, at_1, at_2, ownL, List.replicate, isB, sizeLine, cont_nx, cont_ct, -in_ss, -mod_ii, -rng1_i, -rng2_i, stepB, rng_n P.w2, rng_n P.m2]
      rw [forB_set 9 (fun k => some (.fz (.str (rowS k (mvA ⟨⟨e, p, s, true⟩, d, c⟩ A i))))) (by rw [rowS_zero]; rfl) ?_]
      · simp -implicitDefEqProofs [s_seq, s_nx, s_brk, s_cnt, s_ret, s_retN, s_iff, s_for, s_asg, s_par2, s_par3, s_drop, s_newL, s_newD, s_app, s_ext, s_frz, s_fgt, thenS_nx, thenS_rt, thenS_bk, thenS_ct, iteS_t, iteS_f, iteE_t, iteE_f, andE_t, andE_f, andT_t, andT_f, orT_t, orT_f, e_con, e_var, e_o1, e_o2, e_m2, e_on, e_ot, e_ok, e_and, e_ifx, e_sl, e_lc, e_disp, e_bor, e_oix, t_tst, t_tb, t_tru, t_not, t_and, t_or, t_yes, evA, evO, evW, evP, evG, evGs, getE, setE, forE, wipE, envS, outV, outI, in_e, in_p, in_s, in_w, kd_end', pe_, ee_, kt_, kf_, at_0, at_1, at_2, ownL, List.replicate, isB, sizeLine, cont_nx, cont_ct, -in_ss, -mod_ii, -rng1_i, -rng2_i, List.range_succ, hi']
      · intro j hj
        cases e <;> cases p <;> cases s <;> simp -implicitDefEqProofs [s_seq, s_nx, s_brk, s_cnt, s_ret, s_retN, s_iff, s_for, s_asg, s_par2, s_par3, s_drop, s_newL, s_newD, s_app, s_ext, s_frz, s_fgt, thenS_nx, thenS_rt, thenS_bk, thenS_ct, iteS_t, iteS_f, iteE_t, iteE_f, andE_t, andE_f, andT_t, andT_f, orT_t, orT_f, e_con, e_var, e_o1, e_o2, e_m2, e_on, e_ot, e_ok, e_and, e_ifx, e_sl, e_lc, e_disp, e_bor, e_oix, t_tst, t_tb, t_tru, t_not, t_and, t_or, t_yes, evA, evO, evW, evP, evG, evGs, getE, setE, forE, wipE, envS, outV, outI, in_e, in_p, in_s, in_w, kd_end', pe_, ee_, kt_, kf_, at_0, at_1, at_2, ownL, List.replicate, isB, sizeLine, cont_nx, cont_ct, -in_ss, -mod_ii, -rng1_i, -rng2_i, stepB, len_pic, ix_pic0 P.m1, len_row P.w2, mod_n P.m1, mod_n P.w1, ix_picM P.m1, ix_rowM P.w2 P.w1, P.I, P.J, F_other_eq, add_row (Nat.lt_of_lt_of_le hj P.m2), rowS_succ, mvA, sg]
theorem F_moved_picks_eq {m w : Nat} {A : Int → Int → Bool} (P : Pc m w A) (a : Mo) : F_moved_picks [pic m w A, mo a] = .ret (pic (mvM a m w) (mvW a m w) (mvA a A)) := by
  obtain ⟨⟨e, p, s, w⟩, d, c⟩ := a
  unfold F_moved_picks q_moved_picks runF
  cases w
  · simp -implicitDefEqProofs [s_seq, s_nx, s_brk, s_cnt, s_ret, s_retN, s_iff, s_for, s_asg, s_par2, s_par3, s_drop, s_newL, s_newD, s_app, s_ext, s_frz, s_fgt, thenS_nx, thenS_rt, thenS_bk, thenS_ct, iteS_t, iteS_f, iteE_t, iteE_f, andE_t, andE_f, andT_t, andT_f, orT_t, orT_f, e_con, e_var, e_o1, e_o2, e_m2, e_on, e_ot, e_ok, e_and, e_ifx, e_sl, e_lc, e_disp, e_bor, e_oix, t_tst, t_tb, t_tru, t_not, t_and, t_or, t_yes, evA, evO, evW, evP, evG, evGs, getE, setE, forE, wipE, envS, outV, outI, in_e, in_p, in_s, in_w, kd_end', pe_, ee_, kt_, kf_, at_0, at_1, at_2, ownL, List.replicate, isB, sizeLine, cont_nx, cont_ct, -in_ss, -mod_ii, -rng1_i, -rng2_i, mo, len_pic, ix_pic0 P.m1, len_row P.w2, rng_n P.m2, rng_n P.w2]
    rw [forB_set 9 (fun i => some (.own (.lst ((List.range i).map fun i => .str (rowS w (mvA ⟨⟨e, p, s, false⟩, d, c⟩ A (i : Nat))))))) rfl ?_]
    · simp -implicitDefEqProofs [s_seq, s_nx, s_brk, s_cnt, s_ret, s_retN, s_iff, s_for, s_asg, s_par2, s_par3, s_drop, s_newL, s_newD, s_app, s_ext, s_frz, s_fgt, thenS_nx, thenS_rt, thenS_bk, thenS_ct, iteS_t, iteS_f, iteE_t, iteE_f, andE_t, andE_f, andT_t, andT_f, orT_t, orT_f, e_con, e_var, e_o1, e_o2, e_m2, e_on, e_ot, e_ok, e_and, e_ifx, e_sl, e_lc, e_disp, e_bor, e_oix, t_tst, t_tb, t_tru, t_not, t_and, t_or, t_yes, evA, evO, evW, evP, evG, evGs, getE, setE, forE, wipE, envS, outV, outI, in_e, in_p, in_s, in_w, kd_end', pe_, ee_, kt_, kf_, at_0, at_1, at_2, ownL, List.replicate, isB, sizeLine, cont_nx, cont_ct, -in_ss, -mod_ii, -rng1_i, -rng2_i, mvM, mvW, obD, pic]
    · intro i hi
      have hi' : i < 16777216 := by have := P.m2; omega
      have hW := P.w2
      cases e <;> cases p
      · simp -implicitDefEqProofs [s_seq, s_nx, s_brk, s_cnt, s_ret, s_retN, s_iff, s_for, s_asg, s_par2, s_par3, s_drop, s_newL, s_newD, s_app, s_ext, s_frz, s_fgt, thenS_nx, thenS_rt, thenS_bk, thenS_ct, iteS_t, iteS_f, iteE_t, iteE_f, andE_t, andE_f, andT_t, andT_f, orT_t, orT_f, e_con, e_var, e_o1, e_o2, e_m2, e_on, e_ot, e_ok, e_and, e_ifx, e_sl, e_lc, e_disp, e_bor, e_oix, t_tst, t_tb, t_tru, t_not, t_and, t_or, t_yes, evA, evO, evW, evP, evG, evGs, getE, setE, forE, wipE, envS, outV, outI, in_e, in_p, in_s, in_w, kd_end', pe_, ee_, kt_, kf_, at_0, at_1, at_2, ownL, List.replicate, isB, sizeLine, cont_nx, cont_ct, -in_ss, -mod_ii, -rng1_i, -rng2_i, stepB, rng_n P.w2, rng_n P.m2]
        rw [forB_set 11 (fun k => some (.own (.lst ((List.range k).map fun j => .str (sgnS (mvA ⟨⟨false, false, s, false⟩, d, c⟩ A i (j : Nat))))))) rfl ?_]
        · simp -implicitDefEqProofs [s_seq, s_nx, s_brk, s_cnt, s_ret, s_retN, s_iff, s_for, s_asg, s_par2, s_par3, s_drop, s_newL, s_newD, s_app, s_ext, s_frz, s_fgt, thenS_nx, thenS_rt, thenS_bk, thenS_ct, iteS_t, iteS_f, iteE_t, iteE_f, andE_t, andE_f, andT_t, andT_f, orT_t, orT_f, e_con, e_var, e_o1, e_o2, e_m2, e_on, e_ot, e_ok, e_and, e_ifx, e_sl, e_lc, e_disp, e_bor, e_oix, t_tst, t_tb, t_tru, t_not, t_and, t_or, t_yes, evA, evO, evW, evP, evG, evGs, getE, setE, forE, wipE, envS, outV, outI, in_e, in_p, in_s, in_w, kd_end', pe_, ee_, kt_, kf_, at_0, at_1, at_2, ownL, List.replicate, isB, sizeLine, cont_nx, cont_ct, -in_ss, -mod_ii, -rng1_i, -rng2_i, List.range_succ, hi', obD, join_row hW, noL]
        · intro j hj
          have hj' : j < 16777216 := by omega
          cases s <;> simp -implicitDefEqProofs [s_seq, s_nx, s_brk, s_cnt, s_ret, s_retN, s_iff, s_for, s_asg, s_par2, s_par3, s_drop, s_newL, s_newD, s_app, s_ext, s_frz, s_fgt, thenS_nx, thenS_rt, thenS_bk, thenS_ct, iteS_t, iteS_f, iteE_t, iteE_f, andE_t, andE_f, andT_t, andT_f, orT_t, orT_f, e_con, e_var, e_o1, e_o2, e_m2, e_on, e_ot, e_ok, e_and, e_ifx, e_sl, e_lc, e_disp, e_bor, e_oix, t_tst, t_tb, t_tru, t_not, t_and, t_or, t_yes, evA, evO, evW, evP, evG, evGs, getE, setE, forE, wipE, envS, outV, outI, in_e, in_p, in_s, in_w, kd_end', pe_, ee_, kt_, kf_, at_0, at_1, at_2, ownL, List.replicate, isB, sizeLine, cont_nx, cont_ct, -in_ss, -mod_ii, -rng1_i, -rng2_i, stepB, len_pic, ix_pic0 P.m1, len_row P.w2, mod_n P.m1, mod_n P.w1, ix_picM P.m1, ix_rowM P.w2 P.w1, P.I, P.J, opp_eq, List.range_succ, mvA, sg, hj', tru, Int.neg_sub]
      · simp -implicitDefEqProofs [s_seq, s_nx, s_brk, s_cnt, s_ret, s_retN, s_iff, s_for, s_asg, s_par2, s_par3, s_drop, s_newL, s_newD, s_app, s_ext, s_frz, s_fgt, thenS_nx, thenS_rt, thenS_bk, thenS_ct, iteS_t, iteS_f, iteE_t, iteE_f, andE_t, andE_f, andT_t, andT_f, orT_t, orT_f, e_con, e_var, e_o1, e_o2, e_m2, e_on, e_ot, e_ok, e_and, e_ifx, e_sl, e_lc, e_disp, e_bor, e_oix, t_tst, t_tb, t_tru, t_not, t_and, t_or, t_yes, evA, evO, evW, evP, evG, evGs, getE, setE, forE, wipE, envS, outV, outI, in_e, in_p, in_s, in_w, kd_end', pe_, ee_, kt_, kf_, at_0, at_1, at_2, ownL, List.replicate, isB, sizeLine, cont_nx, cont_ct, -in_ss, -mod_ii, -rng1_i, -rng2_i, stepB, rng_n P.w2, rng_n P.m2]
        rw [forB_set 11 (fun k => some (.own (.lst ((List.range k).map fun j => .str (sgnS (mvA ⟨⟨false, true, s, false⟩, d, c⟩ A i (j : Nat))))))) rfl ?_]
        · simp -implicitDefEqProofs [s_seq, s_nx, s_brk, s_cnt, s_ret, s_retN, s_iff, s_for, s_asg, s_par2, s_par3, s_drop, s_newL, s_newD, s_app, s_ext, s_frz, s_fgt, thenS_nx, thenS_rt, thenS_bk, thenS_ct, iteS_t, iteS_f, iteE_t, iteE_f, andE_t, andE_f, andT_t, andT_f, orT_t, orT_f, e_con, e_var, e_o1, e_o2, e_m2, e_on, e_ot, e_ok, e_and, e_ifx, e_sl, e_lc, e_disp, e_bor, e_oix, t_tst, t_tb, t_tru, t_not, t_and, t_or, t_yes, evA, evO, evW, evP, evG, evGs, getE, setE, forE, wipE, envS, outV, outI, in_e, in_p, in_s, in_w, kd_end', pe_, ee_, kt_, kf_, at_0, at_1, at_2, ownL, List.replicate, isB, sizeLine, cont_nx, cont_ct, -in_ss, -mod_ii, -rng1_i, -rng2_i, List.range_succ, hi', obD, join_row hW, noL]
        · intro j hj
          have hj' : j < 16777216 := by omega
          cases s <;> simp -implicitDefEqProofs [s_seq, s_nx, s_brk, s_cnt, s_ret, s_retN, s_iff, s_for, s_asg, s_par2, s_par3, s_drop, s_newL, s_newD, s_app, s_ext, s_frz, s_fgt, thenS_nx, thenS_rt, thenS_bk, thenS_ct, iteS_t, iteS_f, iteE_t, iteE_f, andE_t, andE_f, andT_t, andT_f, orT_t, orT_f, e_con, e_var, e_o1, e_o2, e_m2, e_on, e_ot, e_ok, e_and, e_ifx, e_sl, e_lc, e_disp, e_bor, e_oix, t_tst, t_tb, t_tru, t_not, t_and, t_or, t_yes, evA, evO, evW, evP, evG, evGs, getE, setE, forE, wipE, envS, outV, outI, in_e, in_p, in_s, in_w, kd_end', pe_, ee_, kt_, kf_, at_0, at_1, at_2, ownL, List.replicate, isB, sizeLine, cont_nx, cont_ct, -in_ss, -mod_ii, -rng1_i, -rng2_i, stepB, len_pic, ix_pic0 P.m1, len_row P.w2, mod_n P.m1, mod_n P.w1, ix_picM P.m1, ix_rowM P.w2 P.w1, P.I, P.J, opp_eq, List.range_succ, mvA, sg, hj', tru, Int.neg_sub]
      · simp -implicitDefEqProofs [s_seq, s_nx, s_brk, s_cnt, s_ret, s_retN, s_iff, s_for, s_asg, s_par2, s_par3, s_drop, s_newL, s_newD, s_app, s_ext, s_frz, s_fgt, thenS_nx, thenS_rt, thenS_bk, thenS_ct, iteS_t, iteS_f, iteE_t, iteE_f, andE_t, andE_f, andT_t, andT_f, orT_t, orT_f, e_con, e_var, e_o1, e_o2, e_m2, e_on, e_ot, e_ok, e_and, e_ifx, e_sl, e_lc, e_disp, e_bor, e_oix, t_tst, t_tb, t_tru, t_not, t_and, t_or, t_yes, evA, evO, evW, evP, evG, evGs, getE, setE, forE, wipE, envS, outV, outI, in_e, in_p, in_s, in_w, kd_end', pe_, ee_, kt_, kf_, at_0, at_1, at_2, ownL, List.replicate, isB, sizeLine, cont_nx, cont_ct, -in_ss, -mod_ii, -rng1_i, -rng2_i, stepB, rng_n P.w2, rng_n P.m2]
        rw [forB_set 11 (fun k => some (.own (.lst ((List.range k).map fun j => .str (sgnS (mvA ⟨⟨true, false, s, false⟩, d, c⟩ A i (j : Nat))))))) rfl ?_]
        · simp -implicitDefEqProofs [s_seq, s_nx, s_brk, s_cnt, s_ret, s_retN, s_iff, s_for, s_asg, s_par2, s_par3, s_drop, s_newL, s_newD, s_app, s_ext, s_frz, s_fgt, thenS_nx, thenS_rt, thenS_bk, thenS_ct, iteS_t, iteS_f, iteE_t, iteE_f, andE_t, andE_f, andT_t, andT_f, orT_t, orT_f, e_con, e_var, e_o1, e_o2, e_m2, e_on, e_ot, e_ok, e_and, e_ifx, e_sl, e_lc, e_disp, e_bor, e_oix, t_tst, t_tb, t_tru, t_not, t_and, t_or, t_yes, evA, evO, evW, evP, evG, evGs, getE, setE, forE, wipE, envS, outV, outI, in_e, in_p, in_s, in_w, kd_end', pe_, ee_, kt_, kf_, at_0, at_1, at_2, ownL, List.replicate, isB, sizeLine, cont_nx, cont_ct, -in_ss, -mod_ii, -rng1_i, -rng2_i, List.range_succ, hi', obD, join_row hW, noL]
        · intro j hj
          have hj' : j < 16777216 := by omega
          cases s <;> simp -implicitDefEqProofs [s_seq, s_nx, s_brk, s_cnt, s_ret, s_retN, s_iff, s_for, s_asg, s_par2, s_par3, s_drop, s_newL, s_newD, s_app, s_ext, s_frz, s_fgt, thenS_nx, thenS_rt, thenS_bk, thenS_ct, iteS_t, iteS_f, iteE_t, iteE_f, andE_t, andE_f, andT_t, andT_f, orT_t, orT_f, e_con, e_var, e_o1, e_o2, e_m2, e_on, e_ot, e_ok, e_and, e_ifx, e_sl, e_lc, e_disp, e_bor, e_oix, t_tst, t_tb, t_tru, t_not, t_and, t_or, t_yes, evA, evO, evW, evP, evG, evGs, getE, setE, forE, wipE, envS, outV, outI, in_e, in_p, in_s, in_w, kd_end', pe_, ee_, kt_, kf_, at_0, at_1, at_2, ownL, List.replicate, isB, sizeLine, cont_nx, cont_ct, -in_ss, -mod_ii, -rng1_i, -rng2_i, stepB, len_pic, ix_pic0 P.m1, len_row P.w2, mod_n P.m1, mod_n P.w1, ix_picM P.m1, ix_rowM P.w2 P.w1, P.I, P.J, opp_eq, List.range_succ, mvA, sg, hj', tru, Int.neg_sub]
      · simp -implicitDefEqProofs [s_seq, s_nx, s_brk, s_cnt, s_ret, s_retN, s_iff, s_for, s_asg, s_par2, s_par3, s_drop, s_newL, s_newD, s_app, s_ext, s_frz, s_fgt, thenS_nx, thenS_rt, thenS_bk, thenS_ct, iteS_t, iteS_f, iteE_t, iteE_f, andE_t, andE_f, andT_t, andT_f, orT_t, orT_f, e_con, e_var, e_o1, e_o2, e_m2, e_on, e_ot, e_ok, e_and, e_ifx, e_sl, e_lc, e_disp, e_bor, e_oix, t_tst, t_tb, t_tru, t_not, t_and, t_or, t_yes, evA, evO, evW, evP, evG, evGs, getE, setE, forE, wipE, envS, outV, outI, in_e, in_p, in_s, in_w, kd_end', pe_, ee_, kt_, kf_, at_0, at_1, at_2, ownL, List.replicate, isB, sizeLine, cont_nx, cont_ct, -in_ss, -mod_ii, -rng1_i, -rng2_i, stepB, rng_n P.w2, rng_n P.m2]
        rw [forB_set 11 (fun k => some (.own (.lst ((List.range k).map fun j => .str (sgnS (mvA ⟨⟨true, true, s, false⟩, d, c⟩ A i (j : Nat))))))) rfl ?_]
        · simp -implicitDefEqProofs [s_seq, s_nx, s_brk, s_cnt, s_ret, s_retN, s_iff, s_for, s_asg, s_par2, s_par3, s_drop, s_newL, s_newD, s_app, s_ext, s_frz, s_fgt, thenS_nx, thenS_rt, thenS_bk, thenS_ct, iteS_t, iteS_f, iteE_t, iteE_f, andE_t, andE_f, andT_t, andT_f, orT_t, orT_f, e_con, e_var, e_o1, e_o2, e_m2, e_on, e_ot, e_ok, e_and, e_ifx, e_sl, e_lc, e_disp, e_bor, e_oix, t_tst, t_tb, t_tru, t_not, t_and, t_or, t_yes, evA, evO, evW, evP, evG, evGs, getE, setE, forE, wipE, envS, outV, outI, in_e, in_p, in_s, in_w, kd_end', pe_, ee_, kt_, kf_, at_0, at_1, at_2, ownL, List.replicate, isB, sizeLine, cont_nx, cont_ct, -in_ss, -mod_ii, -rng1_i, -rng2_i, List.range_succ, hi', obD, join_row hW, noL]
        · intro j hj
          have hj' : j < 16777216 := by omega
          cases s <;> simp -implicitDefEqProofs [s_seq, s_nx, s_brk, s_cnt, s_ret, s_retN, s_iff, s_for, s_asg, s_par2, s_par3, s_drop, s_newL, s_newD, s_app, s_ext, s_frz, s_fgt, thenS_nx, thenS_rt, thenS_bk, thenS_ct, iteS_t, iteS_f, iteE_t, iteE_f, andE_t, andE_f, andT_t, andT_f, orT_t, orT_f, e_con, e_var, e_o1, e_o2, e_m2, e_on, e_ot, e_ok, e_and, e_ifx, e_sl, e_lc, e_disp, e_bor, e_oix, t_tst, t_tb, t_tru, t_not, t_and, t_or, t_yes, evA, evO, evW, evP, evG, evGs, getE, setE, forE, wipE, envS, outV, outI, in_e, in_p, in_s, in_w, kd_end', pe_, ee_, kt_, kf_, at_0, at_1, at_2, ownL, List.replicate, isB, sizeLine, cont_nx, cont_ct, -in_ss, -mod_ii, -rng1_i, -rng2_i, stepB, len_pic, ix_pic0 P.m1, len_row P.w2, mod_n P.m1, mod_n P.w1, ix_picM P.m1, ix_rowM P.w2 P.w1, P.I, P.J, opp_eq, List.range_succ, mvA, sg, hj', tru, Int.neg_sub]
  · simp -implicitDefEqProofs [s_seq, s_nx, s_brk, s_cnt, s_ret, s_retN, s_iff, s_for, s_asg, s_par2, s_par3, s_drop, s_newL, s_newD, s_app, s_ext, s_frz, s_fgt, thenS_nx, thenS_rt, thenS_bk, thenS_ct, iteS_t, iteS_f, iteE_t, iteE_f, andE_t, andE_f, andT_t, andT_f, orT_t, orT_f, e_con, e_var, e_o1, e_o2, e_m2, e_on, e_ot, e_ok, e_and, e_ifx, e_sl, e_lc, e_disp, e_bor, e_oix, t_tst, t_tb, t_tru, t_not, t_and, t_or, t_yes, evA, evO, evW, evP, evG, evGs, getE, setE, forE, wipE, envS, outV, outI, in_e, in_p, in_s, in_w, kd_end', pe_, ee_, kt_, kf_, at_0, at_1, at_2, ownL, List.replicate, isB, sizeLine, cont_nx, cont_ct, -in_ss, -mod_ii, -rng1_i, -rng2_i, mo, len_pic, ix_pic0 P.m1, len_row P.w2, rng_n P.m2, rng_n P.w2]
    rw [forB_set 9 (fun i => some (.own (.lst ((List.range i).map fun i => .str (rowS m (mvA ⟨⟨e, p, s, true⟩, d, c⟩ A (i : Nat))))))) rfl ?_]
    · simp -implicitDefEqProofs [s_seq, s_nx, s_brk, s_cnt, s_ret, s_retN, s_iff, s_for, s_asg, s_par2, s_par3, s_drop, s_newL, s_newD, s_app, s_ext, s_frz, s_fgt, thenS_nx, thenS_rt, thenS_bk, thenS_ct, iteS_t, iteS_f, iteE_t, iteE_f, andE_t, andE_f, andT_t, andT_f, orT_t, orT_f, e_con, e_var, e_o1, e_o2, e_m2, e_on, e_ot, e_ok, e_and, e_ifx, e_sl, e_lc, e_disp, e_bor, e_oix, t_tst, t_tb, t_tru, t_not, t_and, t_or, t_yes, evA, evO, evW, evP, evG, evGs, getE, setE, forE, wipE, envS, outV, outI, in_e, in_p, in_s, in_w, kd_end', pe_, ee_, kt_, kf_, at_0, at_1, at_2, ownL, List.replicate, isB, sizeLine, cont_nx, cont_ct, -in_ss, -mod_ii, -rng1_i, -rng2_i, mvM, mvW, obD, pic]
    · intro i hi
      have hi' : i < 16777216 := by have := P.w2; omega
      have hW := P.m2
      cases e <;> cases p
      · simp -implicitDefEqProofs [s_seq, s_nx, s_brk, s_cnt, s_ret, s_retN, s_iff, s_for, s_asg, s_par2, s_par3, s_drop, s_newL, s_newD, s_app, s_ext, s_frz, s_fgt, thenS_nx, thenS_rt, thenS_bk, thenS_ct, iteS_t, iteS_f, iteE_t, iteE_f, andE_t, andE_f, andT_t, andT_f, orT_t, orT_f, e_con, e_var, e_o1, e_o2, e_m2, e_on, e_ot, e_ok, e_and, e_ifx, e_sl, e_lc, e_disp, e_bor, e_oix, t_tst, t_tb, t_tru, t_not, t_and, t_or, t_yes, evA, evO, evW, evP, evG, evGs, getE, setE, forE, wipE, envS, outV, outI, in_e, in_p, in_s, in_w, kd_end', pe_, ee_, kt_, kf_, at_0, at_1, at_2, ownL, List.replicate, isB, sizeLine, cont_nx, cont_ct, -in_ss, -mod_ii, -rng1_i, -rng2_i, stepB, rng_n P.w2, rng_n P.m2]
        rw [forB_set 11 (fun k => some (.own (.lst ((List.range k).map fun j => .str (sgnS (mvA ⟨⟨false, false, s, true⟩, d, c⟩ A i (j : Nat))))))) rfl ?_]
        · simp -implicitDefEqProofs [s_seq, s_nx, s_brk, s_cnt, s_ret, s_retN, s_iff, s_for, s_asg, s_par2, s_par3, s_drop, s_newL, s_newD, s_app, s_ext, s_frz, s_fgt, thenS_nx, thenS_rt, thenS_bk, thenS_ct, iteS_t, iteS_f, iteE_t, iteE_f, andE_t, andE_f, andT_t, andT_f, orT_t, orT_f, e_con, e_var, e_o1, e_o2, e_m2, e_on, e_ot, e_ok, e_and, e_ifx, e_sl, e_lc, e_disp, e_bor, e_oix, t_tst, t_tb, t_tru, t_not, t_and, t_or, t_yes, evA, evO, evW, evP, evG, evGs, getE, setE, forE, wipE, envS, outV, outI, in_e, in_p, in_s, in_w, kd_end', pe_, ee_, kt_, kf_, at_0, at_1, at_2, ownL, List.replicate, isB, sizeLine, cont_nx, cont_ct, -in_ss, -mod_ii, -rng1_i, -rng2_i, List.range_succ, hi', obD, join_row hW, noL]
        · intro j hj
          have hj' : j < 16777216 := by omega
          cases s <;> simp -implicitDefEqProofs [s_seq, s_nx, s_brk, s_cnt, s_ret, s_retN, s_iff, s_for, s_asg, s_par2, s_par3, s_drop, s_newL, s_newD, s_app, s_ext, s_frz, s_fgt, thenS_nx, thenS_rt, thenS_bk, thenS_ct, iteS_t, iteS_f, iteE_t, iteE_f, andE_t, andE_f, andT_t, andT_f, orT_t, orT_f, e_con, e_var, e_o1, e_o2, e_m2, e_on, e_ot, e_ok, e_and, e_ifx, e_sl, e_lc, e_disp, e_bor, e_oix, t_tst, t_tb, t_tru, t_not, t_and, t_or, t_yes, evA, evO, evW, evP, evG, evGs, getE, setE, forE, wipE, envS, outV, outI, in_e, in_p, in_s, in_w, kd_end', pe_, ee_, kt_, kf_, at_0, at_1, at_2, ownL, List.replicate, isB, sizeLine, cont_nx, cont_ct, -in_ss, -mod_ii, -rng1_i, -rng2_i, stepB, len_pic, ix_pic0 P.m1, len_row P.w2, mod_n P.m1, mod_n P.w1, ix_picM P.m1, ix_rowM P.w2 P.w1, P.I, P.J, opp_eq, List.range_succ, mvA, sg, hj', tru, Int.neg_sub]
      · simp -implicitDefEqProofs [s_seq, s_nx, s_brk, s_cnt, s_ret, s_retN, s_iff, s_for, s_asg, s_par2, s_par3, s_drop, s_newL, s_newD, s_app, s_ext, s_frz, s_fgt, thenS_nx, thenS_rt, thenS_bk, thenS_ct, iteS_t, iteS_f, iteE_t, iteE_f, andE_t, andE_f, andT_t, andT_f, orT_t, orT_f, e_con, e_var, e_o1, e_o2, e_m2, e_on, e_ot, e_ok, e_and, e_ifx, e_sl, e_lc, e_disp, e_bor, e_oix, t_tst, t_tb, t_tru, t_not, t_and, t_or, t_yes, evA, evO, evW, evP, evG, evGs, getE, setE, forE, wipE, envS, outV, outI, in_e, in_p, in_s, in_w, kd_end', pe_, ee_, kt_, kf_, at_0, at_1, at_2, ownL, List.replicate, isB, sizeLine, cont_nx, cont_ct, -in_ss, -mod_ii, -rng1_i, -rng2_i, stepB, rng_n P.w2, rng_n P.m2]
        rw [forB_set 11 (fun k => some (.own (.lst ((List.range k).map fun j => .str (sgnS (mvA ⟨⟨false, true, s, true⟩, d, c⟩ A i (j : Nat))))))) rfl ?_]
        · simp -implicitDefEqProofs [s_seq, s_nx, s_brk, s_cnt, s_ret, s_retN, s_iff, s_for, s_asg, s_par2, s_par3, s_drop, s_newL, s_newD, s_app, s_ext, s_frz, s_fgt, thenS_nx, thenS_rt, thenS_bk, thenS_ct, iteS_t, iteS_f, iteE_t, iteE_f, andE_t, andE_f, andT_t, andT_f, orT_t, orT_f, e_con, e_var, e_o1, e_o2, e_m2, e_on, e_ot, e_ok, e_and, e_ifx, e_sl, e_lc, e_disp, e_bor, e_oix, t_tst, t_tb, t_tru, t_not, t_and, t_or, t_yes, evA, evO, evW, evP, evG, evGs, getE, setE, forE, wipE, envS, outV, outI, in_e, in_p, in_s, in_w, kd_end', pe_, ee_, kt_, kf_, at_0, at_1, at_2, ownL, List.replicate, isB, sizeLine, cont_nx, cont_ct, -in_ss, -mod_ii, -rng1_i, -rng2_i, List.range_succ, hi', obD, join_row hW, noL]
        · intro j hj
          have hj' : j < 16777216 := by omega
          cases s <;> simp -implicitDefEqProofs [s_seq, s_nx, s_brk, s_cnt, s_ret, s_retN, s_iff, s_for, s_asg, s_par2, s_par3, s_drop, s_newL, s_newD, s_app, s_ext, s_frz, s_fgt, thenS_nx, thenS_rt, thenS_bk, thenS_ct, iteS_t, iteS_f, iteE_t, iteE_f, andE_t, andE_f, andT_t, andT_f, orT_t, orT_f, e_con, e_var, e_o1, e_o2, e_m2, e_on, e_ot, e_ok, e_and, e_ifx, e_sl, e_lc, e_disp, e_bor, e_oix, t_tst, t_tb, t_tru, t_not, t_and, t_or, t_yes, evA, evO, evW, evP, evG, evGs, getE, setE, forE, wipE, envS, outV, outI, in_e, in_p, in_s, in_w, kd_end', pe_, ee_, kt_, kf_, at_0, at_1, at_2, ownL, List.replicate, isB, sizeLine, cont_nx, cont_ct, -in_ss, -mod_ii, -rng1_i, -rng2_i, stepB, len_pic, ix_pic0 P.m1, len_row P.w2, mod_n P.m1, mod_n P.w1, ix_picM P.m1, ix_rowM P.w2 P.w1, P.I, P.J, opp_eq, List.range_succ, mvA, sg, hj', tru, Int.neg_sub]
      · simp -implicitDefEqProofs [s_seq, s_nx, s_brk, s_cnt, s_ret, s_retN, s_iff, s_for, s_asg, s_par2, s_par3, s_drop, s_newL, s_newD, s_app, s_ext, s_frz, s_fgt, thenS_nx, thenS_rt, thenS_bk, thenS_ct, iteS_t, iteS_f, iteE_t, iteE_f, andE_t, andE_f, andT_t, andT_f, orT_t, orT_f, e_con, e_var, e_o1, e_o2, e_m2, e_on, e_ot, e_ok, e_and, e_ifx, e_sl, e_lc, e_disp, e_bor, e_oix, t_tst, t_tb, t_tru, t_not, t_and, t_or, t_yes, evA, evO, evW, evP, evG, evGs, getE, setE, forE, wipE, envS, outV, outI, in_e, in_p, in_s, in_w, kd_end', pe_, ee_, kt_, kf_, at_0, at_1, at_2, ownL, List.replicate, isB, sizeLine, cont_nx, cont_ct, -in_ss, -mod_ii, -rng1_i, -rng2_i, stepB, rng_n P.w2, rng_n P.m2]
        rw [forB_set 11 (fun k => some (.own (.lst ((List.range k).map fun j => .str (sgnS (mvA ⟨⟨true, false, s, true⟩, d, c⟩ A i (j : Nat))))))) rfl ?_]
        · simp -implicitDefEqProofs [s_seq, s_nx, s_brk, s_cnt, s_ret, s_retN, s_iff, s_for, s_asg, s_par2, s_par3, s_drop, s_newL, s_newD, s_app, s_ext, s_frz, s_fgt, thenS_nx, thenS_rt, thenS_bk, thenS_ct, iteS_t, iteS_f, iteE_t, iteE_f, andE_t, andE_f, andT_t, andT_f, orT_t, orT_f, e_con, e_var, e_o1, e_o2, e_m2, e_on, e_ot, e_ok, e_and, e_ifx, e_sl, e_lc, e_disp, e_bor, e_oix, t_tst, t_tb, t_tru, t_not, t_and, t_or, t_yes, evA, evO, evW, evP, evG, evGs, getE, setE, forE, wipE, envS, outV, outI, in_e, in_p, in_s, in_w, kd_end', pe_, ee_, kt_, kf_, at_0, at_1, at_2, ownL, List.replicate, isB, sizeLine, cont_nx, cont_ct, -in_ss, -mod_ii, -rng1_i, -rng2_i, List.range_succ, hi', obD, join_row hW, noL]
        · intro j hj
          have hj' : j < 16777216 := by omega
          cases s <;> simp -implicitDefEqProofs [s_seq, s_nx, s_brk, s_cnt, s_ret, s_retN, s_iff, s_for, s_asg, s_par2, s_par3, s_drop, s_newL, s_newD, s_app, s_ext, s_frz, s_fgt, thenS_nx, thenS_rt, thenS_bk, thenS_ct, iteS_t, iteS_f, iteE_t, iteE_f, andE_t, andE_f, andT_t, andT_f, orT_t, orT_f, e_con, e_var, e_o1, e_o2, e_m2, e_on, e_ot, e_ok, e_and, e_ifx, e_sl, e_lc, e_disp, e_bor, e_oix, t_tst, t_tb, t_tru, t_not, t_and, t_or, t_yes, evA, evO, evW, evP, evG, evGs, getE, setE, forE, wipE, envS, outV, outI, in_e, in_p, in_s, in_w, kd_end', pe_, ee_, kt_, kf_, at_0, at_1, at_2, ownL, List.replicate, isB, sizeLine, cont_nx, cont_ct, -in_ss, -mod_ii, -rng1_i, -rng2_i, stepB, len_pic, ix_pic0 P.m1, len_row P.w2, mod_n P.m1, mod_n P.w1, ix_picM P.m1, ix_rowM P.w2 P.w1, P.I, P.J, opp_eq, List.range_succ, mvA, sg, hj', tru, Int.neg_sub]
      · simp -implicitDefEqProofs [s_seq, s_nx, s_brk, s_cnt, s_ret, s_retN, s_iff, s_for, s_asg, s_par2, s_par3, s_drop, s_newL, s_newD, s_app, s_ext, s_frz, s_fgt, thenS_nx, thenS_rt, thenS_bk, thenS_ct, iteS_t, iteS_f, iteE_t, iteE_f, andE_t, andE_f, andT_t, andT_f, orT_t, orT_f, e_con, e_var, e_o1, e_o2, e_m2, e_on, e_ot, e_ok, e_and, e_ifx, e_sl, e_lc, e_disp, e_bor, e_oix, t_tst, t_tb, t_tru, t_not, t_and, t_or, t_yes, evA, evO, evW, evP, evG, evGs, getE, setE, forE, wipE, envS, outV, outI, in_e, in_p, in_s, in_w, kd_end', pe_, ee_, kt_, kf_, at_0, at_1, at_2, ownL, List.replicate, isB, sizeLine, cont_nx, cont_ct, -in_ss, -mod_ii, -rng1_i, -rng2_i, stepB, rng_n P.w2, rng_n P.m2]
        rw [forB_set 11 (fun k => some (.own (.lst ((List.range k).map fun j => .str (sgnS (mvA ⟨⟨true, true, s, true⟩, d, c⟩ A i (j : Nat))))))) rfl ?_]
        · simp -implicitDefEqProofs [s_seq, s_nx, s_brk, s_cnt, s_ret, s_retN, s_iff, s_for, s_asg, s_par2, s_par3, s_drop, s_newL, s_newD, s_app, s_ext, s_frz, s_fgt, thenS_nx, thenS_rt, thenS_bk, thenS_ct, iteS_t, iteS_f, iteE_t, iteE_f, andE_t, andE_f, andT_t, andT_f, orT_t, orT_f, e_con, e_var, e_o1, e_o2, e_m2, e_on, e_ot, e_ok, e_and, e_ifx, e_sl, e_lc, e_disp, e_bor, e_oix, t_tst, t_tb, t_tru, t_not, t_and, t_or, t_yes, evA, evO, evW, evP, evG, evGs, getE, setE, forE, wipE, envS, outV, outI, in_e, in_p, in_s, in_w, kd_end', pe_, ee_, kt_, kf_, at_0, at_1, at_2, ownL, List.replicate, isB, sizeLine, cont_nx, cont_ct, -in_ss, -mod_ii, -rng1_i, -rng2_i, List.range_succ, hi', obD, join_row hW, noL]
        · intro j hj
          have hj' : j < 16777216 := by omega
          cases s <;> simp -implicitDefEqProofs [s_seq, s_nx, s_brk, s_cnt, s_ret, s_retN, s_iff, s_for, s_asg, s_par2, s_par3, s_drop, s_newL, s_newD, s_app, s_ext, s_frz, s_fgt, thenS_nx, thenS_rt, thenS_bk, thenS_ct, iteS_t, iteS_f, iteE_t, iteE_f, andE_t, andE_f, andT_t, andT_f, orT_t, orT_f, e_con, e_var, e_o1, e_o2, e_m2, e_on, e_ot, e_ok, e_and, e_ifx, e_sl, e_lc, e_disp, e_bor, e_oix, t_tst, t_tb, t_tru, t_not, t_and, t_or, t_yes, evA, evO, evW, evP, evG, evGs, getE, setE, forE, wipE, envS, outV, outI, in_e, in_p, in_s, in_w, kd_end', pe_, ee_, kt_, kf_, at_0, at_1, at_2, ownL, List.replicate, isB, sizeLine, cont_nx, cont_ct, -in_ss, -mod_ii, -rng1_i, -rng2_i, stepB, len_pic, ix_pic0 P.m1, len_row P.w2, mod_n P.m1, mod_n P.w1, ix_picM P.m1, ix_rowM P.w2 P.w1, P.I, P.J, opp_eq, List.range_succ, mvA, sg, hj', tru, Int.neg_sub]
end K60

set_option Elab.async false
set_option linter.all false
set_option maxRecDepth 100000
set_option maxHeartbeats 2000000
namespace K60
open PySem PySem.Spec L2 DL MV
def clo (m w : Nat) (A : Int → Int → Bool) : Dv := .ins "Cloth" [("picks", pic m w A), ("ends", .int w)]
theorem isi_pic {m w : Nat} {A : Int → Int → Bool} : isiF "tuple" (pic m w A) = some (.bl true) := rfl
theorem eq_pic0 {m w : Nat} {A : Int → Int → Bool} (h : 1 ≤ m) : eqF (pic m w A) (.tup []) = some false := by
  unfold pic
  rw [eq_t0]
  cases m with
  | zero => omega
  | succ m => simp
theorem F_Cloth_eq {m w : Nat} {A : Int → Int → Bool} (P : Pc m w A) : F_Cloth___init__ [pic m w A] = .ret (clo m w A) := by
  unfold F_Cloth___init__ q_Cloth___init__ runI
  simp -implicitDefEqProofs [s_seq, s_nx, s_brk, s_cnt, s_ret, s_retN, s_iff, s_for, s_asg, s_par2, s_par3, s_drop, s_newL, s_newD, s_app, s_ext, s_frz, s_fgt, thenS_nx, thenS_rt, thenS_bk, thenS_ct, iteS_t, iteS_f, iteE_t, iteE_f, andE_t, andE_f, andT_t, andT_f, orT_t, orT_f, e_con, e_var, e_o1, e_o2, e_m2, e_on, e_ot, e_ok, e_and, e_ifx, e_sl, e_lc, e_disp, e_bor, e_oix, t_tst, t_tb, t_tru, t_not, t_and, t_or, t_yes, evA, evO, evW, evP, evG, evGs, getE, setE, forE, wipE, envS, outV, outI, in_e, in_p, in_s, in_w, kd_end', pe_, ee_, kt_, kf_, at_0, at_1, at_2, ownL, List.replicate, isB, sizeLine, cont_nx, cont_ct, -in_ss, -mod_ii, -rng1_i, -rng2_i, isi_pic, eq_pic0 P.m1]
  have : enumD [pic m w A] = some ((List.range m).map fun i => .tup [.int (i : Nat), .str (rowS w (A (i : Nat)))]) := by
    unfold pic
    rw [enum_t, nums_map]
    congr 1
    apply List.ext_getElem <;> simp
  simp -implicitDefEqProofs [s_seq, s_nx, s_brk, s_cnt, s_ret, s_retN, s_iff, s_for, s_asg, s_par2, s_par3, s_drop, s_newL, s_newD, s_app, s_ext, s_frz, s_fgt, thenS_nx, thenS_rt, thenS_bk, thenS_ct, iteS_t, iteS_f, iteE_t, iteE_f, andE_t, andE_f, andT_t, andT_f, orT_t, orT_f, e_con, e_var, e_o1, e_o2, e_m2, e_on, e_ot, e_ok, e_and, e_ifx, e_sl, e_lc, e_disp, e_bor, e_oix, t_tst, t_tb, t_tru, t_not, t_and, t_or, t_yes, evA, evO, evW, evP, evG, evGs, getE, setE, forE, wipE, envS, outV, outI, in_e, in_p, in_s, in_w, kd_end', pe_, ee_, kt_, kf_, at_0, at_1, at_2, ownL, List.replicate, isB, sizeLine, cont_nx, cont_ct, -in_ss, -mod_ii, -rng1_i, -rng2_i, this]
  rw [forB_at (fun _ => [some (.own (.ins "Cloth" [])), some (.fz (pic m w A)), none, none]) rfl ?_]
  · simp -implicitDefEqProofs [s_seq, s_nx, s_brk, s_cnt, s_ret, s_retN, s_iff, s_for, s_asg, s_par2, s_par3, s_drop, s_newL, s_newD, s_app, s_ext, s_frz, s_fgt, thenS_nx, thenS_rt, thenS_bk, thenS_ct, iteS_t, iteS_f, iteE_t, iteE_f, andE_t, andE_f, andT_t, andT_f, orT_t, orT_f, e_con, e_var, e_o1, e_o2, e_m2, e_on, e_ot, e_ok, e_and, e_ifx, e_sl, e_lc, e_disp, e_bor, e_oix, t_tst, t_tb, t_tru, t_not, t_and, t_or, t_yes, evA, evO, evW, evP, evG, evGs, getE, setE, forE, wipE, envS, outV, outI, in_e, in_p, in_s, in_w, kd_end', pe_, ee_, kt_, kf_, at_0, at_1, at_2, ownL, List.replicate, isB, sizeLine, cont_nx, cont_ct, -in_ss, -mod_ii, -rng1_i, -rng2_i, ownI, len_row P.w2, ix_pic0 P.m1, clo, putFD, flds]
    decide +kernel
  · intro k hk
    simp -implicitDefEqProofs [s_seq, s_nx, s_brk, s_cnt, s_ret, s_retN, s_iff, s_for, s_asg, s_par2, s_par3, s_drop, s_newL, s_newD, s_app, s_ext, s_frz, s_fgt, thenS_nx, thenS_rt, thenS_bk, thenS_ct, iteS_t, iteS_f, iteE_t, iteE_f, andE_t, andE_f, andT_t, andT_f, orT_t, orT_f, e_con, e_var, e_o1, e_o2, e_m2, e_on, e_ot, e_ok, e_and, e_ifx, e_sl, e_lc, e_disp, e_bor, e_oix, t_tst, t_tb, t_tru, t_not, t_and, t_or, t_yes, evA, evO, evW, evP, evG, evGs, getE, setE, forE, wipE, envS, outV, outI, in_e, in_p, in_s, in_w, kd_end', pe_, ee_, kt_, kf_, at_0, at_1, at_2, ownL, List.replicate, isB, sizeLine, cont_nx, cont_ct, -in_ss, -mod_ii, -rng1_i, -rng2_i, stepB, F_is_pick_eq P.w1 P.w2, len_row P.w2, ix_pic0 P.m1]
theorem F_moved_eq {m w : Nat} {A : Int → Int → Bool} (P : Pc m w A) (a : Mo) (Q : Pc (mvM a m w) (mvW a m w) (mvA a A)) : F_moved [clo m w A, mo a] = .ret (clo (mvM a m w) (mvW a m w) (mvA a A)) := by
  have : fldF "picks" (clo m w A) = some (pic m w A) := rfl
  unfold F_moved q_moved runF
  simp -implicitDefEqProofs [s_seq, s_nx, s_brk, s_cnt, s_ret, s_retN, s_iff, s_for, s_asg, s_par2, s_par3, s_drop, s_newL, s_newD, s_app, s_ext, s_frz, s_fgt, thenS_nx, thenS_rt, thenS_bk, thenS_ct, iteS_t, iteS_f, iteE_t, iteE_f, andE_t, andE_f, andT_t, andT_f, orT_t, orT_f, e_con, e_var, e_o1, e_o2, e_m2, e_on, e_ot, e_ok, e_and, e_ifx, e_sl, e_lc, e_disp, e_bor, e_oix, t_tst, t_tb, t_tru, t_not, t_and, t_or, t_yes, evA, evO, evW, evP, evG, evGs, getE, setE, forE, wipE, envS, outV, outI, in_e, in_p, in_s, in_w, kd_end', pe_, ee_, kt_, kf_, at_0, at_1, at_2, ownL, List.replicate, isB, sizeLine, cont_nx, cont_ct, -in_ss, -mod_ii, -rng1_i, -rng2_i, this, F_moved_picks_eq P, F_Cloth_eq Q]
end K60

set_option Elab.async false
set_option linter.all false
set_option maxRecDepth 100000
set_option maxHeartbeats 2000000
namespace K60
open PySem PySem.Spec L2 DL MV
theorem F_least_period_eq {D : Dv} {m p : Nat} {g : Int → Str} (hm : 1 ≤ m) (hm2 : m ≤ 1000) (hl : lenF [D] = some (.int m)) (hx : ∀ k : Int, 0 ≤ k → k < m → ixF D (.int k) = some (.str (g k))) (P : Per g m) (L : Least g p) : F_least_period [D] = .ret (.int p) := by
  have hpm : p ≤ m := L.le m hm P
  have e1 : rng2F [.int 1, .int (m : Nat)] = some (rints 1 (m - 1)) := by
    rw [rng2_i, decide_eq_true (by omega), gO_true, show ((m : Int) - 1).toNat = m - 1 from by omega]
  unfold F_least_period q_least_period runF
  simp -implicitDefEqProofs [s_seq, s_nx, s_brk, s_cnt, s_ret, s_retN, s_iff, s_for, s_asg, s_par2, s_par3, s_drop, s_newL, s_newD, s_app, s_ext, s_frz, s_fgt, thenS_nx, thenS_rt, thenS_bk, thenS_ct, iteS_t, iteS_f, iteE_t, iteE_f, andE_t, andE_f, andT_t, andT_f, orT_t, orT_f, e_con, e_var, e_o1, e_o2, e_m2, e_on, e_ot, e_ok, e_and, e_ifx, e_sl, e_lc, e_disp, e_bor, e_oix, t_tst, t_tb, t_tru, t_not, t_and, t_or, t_yes, evA, evO, evW, evP, evG, evGs, getE, setE, forE, wipE, envS, outV, outI, in_e, in_p, in_s, in_w, kd_end', pe_, ee_, kt_, kf_, at_0, at_1, at_2, ownL, List.replicate, isB, sizeLine, cont_nx, cont_ct, -in_ss, -mod_ii, -rng1_i, -rng2_i, hl, e1]
  rw [forB_find (fun k => (m % (k + 1) == 0) && (List.range (m - (k + 1))).all fun i => g (i : Nat) == g ((i : Nat) + (k + 1 : Nat))) (fun k => .int ((k + 1 : Nat) : Int)) ?_]
  · cases q : List.find? (fun k => (m % (k + 1) == 0) && (List.range (m - (k + 1))).all fun i => g (i : Nat) == g ((i : Nat) + (k + 1 : Nat))) (List.range (m - 1)) with
    | some k =>
      rw [List.find?_range_eq_some] at q
      obtain ⟨h1, h2, h3⟩ := q
      rw [Bool.and_eq_true, beq_iff_eq, List.all_eq_true] at h1
      have hk := List.mem_range.mp h2
      have per : Per g ((k + 1 : Nat) : Int) := per_steps (by omega) hm h1.1 P fun i hi => beq_iff_eq.mp (h1.2 i (List.mem_range.mpr hi))
      have a1 := L.le (k + 1) (by omega) per
      have a2 : ¬ p - 1 < k := fun z => by
        have := h3 (p - 1) z
        have hp := L.pos
        rw [show p - 1 + 1 = p from by omega, Bool.not_eq_true', Bool.and_eq_false_iff] at this
        rcases this with y | y
        · rw [beq_eq_false_iff_ne] at y
          exact y (L.dvd P)
        · rw [List.all_eq_false] at y
          obtain ⟨i, _, y⟩ := y
          exact y (beq_iff_eq.mpr (L.per i).symm)
      have hp := L.pos
      simp -implicitDefEqProofs [s_seq, s_nx, s_brk, s_cnt, s_ret, s_retN, s_iff, s_for, s_asg, s_par2, s_par3, s_drop, s_newL, s_newD, s_app, s_ext, s_frz, s_fgt, thenS_nx, thenS_rt, thenS_bk, thenS_ct, iteS_t, iteS_f, iteE_t, iteE_f, andE_t, andE_f, andT_t, andT_f, orT_t, orT_f, e_con, e_var, e_o1, e_o2, e_m2, e_on, e_ot, e_ok, e_and, e_ifx, e_sl, e_lc, e_disp, e_bor, e_oix, t_tst, t_tb, t_tru, t_not, t_and, t_or, t_yes, evA, evO, evW, evP, evG, evGs, getE, setE, forE, wipE, envS, outV, outI, in_e, in_p, in_s, in_w, kd_end', pe_, ee_, kt_, kf_, at_0, at_1, at_2, ownL, List.replicate, isB, sizeLine, cont_nx, cont_ct, -in_ss, -mod_ii, -rng1_i, -rng2_i]
      omega
    | none =>
      rw [List.find?_range_eq_none] at q
      have a2 : ¬ p - 1 < m - 1 := fun z => by
        have := q (p - 1) z
        have hp := L.pos
        rw [show p - 1 + 1 = p from by omega, Bool.not_eq_true', Bool.and_eq_false_iff] at this
        rcases this with y | y
        · rw [beq_eq_false_iff_ne] at y
          exact y (L.dvd P)
        · rw [List.all_eq_false] at y
          obtain ⟨i, _, y⟩ := y
          exact y (beq_iff_eq.mpr (L.per i).symm)
      have hp := L.pos
      simp -implicitDefEqProofs [s_seq, s_nx, s_brk, s_cnt, s_ret, s_retN, s_iff, s_for, s_asg, s_par2, s_par3, s_drop, s_newL, s_newD, s_app, s_ext, s_frz, s_fgt, thenS_nx, thenS_rt, thenS_bk, thenS_ct, iteS_t, iteS_f, iteE_t, iteE_f, andE_t, andE_f, andT_t, andT_f, orT_t, orT_f, e_con, e_var, e_o1, e_o2, e_m2, e_on, e_ot, e_ok, e_and, e_ifx, e_sl, e_lc, e_disp, e_bor, e_oix, t_tst, t_tb, t_tru, t_not, t_and, t_or, t_yes, evA, evO, evW, evP, evG, evGs, getE, setE, forE, wipE, envS, outV, outI, in_e, in_p, in_s, in_w, kd_end', pe_, ee_, kt_, kf_, at_0, at_1, at_2, ownL, List.replicate, isB, sizeLine, cont_nx, cont_ct, -in_ss, -mod_ii, -rng1_i, -rng2_i]
      omega
  · intro k hk
    have e2 : modF (.int (m : Nat)) (.int (1 + (k : Int))) = some (.int ((m % (k + 1) : Nat) : Int)) := by
      rw [mod_ii, decide_eq_true (by omega)]
      rw [show (1 : Int) + k = ((k + 1 : Nat) : Int) from by omega]
      rfl
    have e3 : ((((m % (k + 1) : Nat) : Int)) == 0) = (m % (k + 1) == 0) := by
      rw [Bool.eq_iff_iff, beq_iff_eq, beq_iff_eq]
      omega
    have e4 : rng1F [.int ((m : Int) - (1 + (k : Int)))] = some (rints 0 (m - (k + 1))) := by
      rw [rng1_i, decide_eq_true (by omega), gO_true, show ((m : Int) - (1 + (k : Int))).toNat = m - (k + 1) from by omega]
    have e5 : lcB (.nm 3) .yes (.o2 eqO.o2 (.o2 ixO.o2 (.var 0) (.var 3)) (.o2 ixO.o2 (.var 0) (.o2 addO.o2 (.var 3) (.var 2)))) [some (.fz D), some (.fz (.int (m : Nat))), some (.fz (.int (1 + (k : Int)))), none] (rints 0 (m - (k + 1))) = .ret (.lst ((List.range (m - (k + 1))).map fun i => .bl (g (i : Nat) == g ((i : Nat) + (k + 1 : Nat))))) := by
      rw [rints_map]
      refine lcB_map (by simp; omega) fun i hi => ?_
      have hi := List.mem_range.mp hi
      have x1 := hx (i : Nat) (by omega) (by omega)
      have x2 := hx ((i : Nat) + (1 + (k : Int))) (by omega) (by omega)
      simp -implicitDefEqProofs [s_seq, s_nx, s_brk, s_cnt, s_ret, s_retN, s_iff, s_for, s_asg, s_par2, s_par3, s_drop, s_newL, s_newD, s_app, s_ext, s_frz, s_fgt, thenS_nx, thenS_rt, thenS_bk, thenS_ct, iteS_t, iteS_f, iteE_t, iteE_f, andE_t, andE_f, andT_t, andT_f, orT_t, orT_f, e_con, e_var, e_o1, e_o2, e_m2, e_on, e_ot, e_ok, e_and, e_ifx, e_sl, e_lc, e_disp, e_bor, e_oix, t_tst, t_tb, t_tru, t_not, t_and, t_or, t_yes, evA, evO, evW, evP, evG, evGs, getE, setE, forE, wipE, envS, outV, outI, in_e, in_p, in_s, in_w, kd_end', pe_, ee_, kt_, kf_, at_0, at_1, at_2, ownL, List.replicate, isB, sizeLine, cont_nx, cont_ct, -in_ss, -mod_ii, -rng1_i, -rng2_i, stepL, slotsG, x1, x2]
      rw [show (i : Int) + (1 + k) = i + (k + 1) from by omega]
    obtain ⟨R, e2, e3⟩ : ∃ R : Int, modF (.int (m : Nat)) (.int (1 + (k : Int))) = some (.int R) ∧ (R == 0) = (m % (k + 1) == 0) := ⟨_, e2, e3⟩
    obtain ⟨Ls, e5, e6⟩ : ∃ Ls, lcB (.nm 3) .yes (.o2 eqO.o2 (.o2 ixO.o2 (.var 0) (.var 3)) (.o2 ixO.o2 (.var 0) (.o2 addO.o2 (.var 3) (.var 2)))) [some (.fz D), some (.fz (.int (m : Nat))), some (.fz (.int (1 + (k : Int)))), none] (rints 0 (m - (k + 1))) = .ret (.lst Ls) ∧ allF [.lst Ls] = some (.bl ((List.range (m - (k + 1))).all fun i => g (i : Nat) == g ((i : Nat) + (k + 1 : Nat)))) := ⟨_, e5, all_map _ _⟩
    revert e3 e6
    generalize ((List.range (m - (k + 1))).all fun i => g (i : Nat) == g ((i : Nat) + (k + 1 : Nat))) = Y
    generalize (m % (k + 1) == 0) = X
    intro e3 e6
    cases X
    · rw [if_neg (by simp)]
      simp -implicitDefEqProofs [s_seq, s_nx, s_brk, s_cnt, s_ret, s_retN, s_iff, s_for, s_asg, s_par2, s_par3, s_drop, s_newL, s_newD, s_app, s_ext, s_frz, s_fgt, thenS_nx, thenS_rt, thenS_bk, thenS_ct, iteS_t, iteS_f, iteE_t, iteE_f, andE_t, andE_f, andT_t, andT_f, orT_t, orT_f, e_con, e_var, e_o1, e_o2, e_m2, e_on, e_ot, e_ok, e_and, e_ifx, e_sl, e_lc, e_disp, e_bor, e_oix, t_tst, t_tb, t_tru, t_not, t_and, t_or, t_yes, evA, evO, evW, evP, evG, evGs, getE, setE, forE, wipE, envS, outV, outI, in_e, in_p, in_s, in_w, kd_end', pe_, ee_, kt_, kf_, at_0, at_1, at_2, ownL, List.replicate, isB, sizeLine, cont_nx, cont_ct, -in_ss, -mod_ii, -rng1_i, -rng2_i, stepB, e2, e3, e4, e5, e6]
    · cases Y
      · rw [if_neg (by simp)]
        simp -implicitDefEqProofs [s_seq, s_nx, s_brk, s_cnt, s_ret, s_retN, s_iff, s_for, s_asg, s_par2, s_par3, s_drop, s_newL, s_newD, s_app, s_ext, s_frz, s_fgt, thenS_nx, thenS_rt, thenS_bk, thenS_ct, iteS_t, iteS_f, iteE_t, iteE_f, andE_t, andE_f, andT_t, andT_f, orT_t, orT_f, e_con, e_var, e_o1, e_o2, e_m2, e_on, e_ot, e_ok, e_and, e_ifx, e_sl, e_lc, e_disp, e_bor, e_oix, t_tst, t_tb, t_tru, t_not, t_and, t_or, t_yes, evA, evO, evW, evP, evG, evGs, getE, setE, forE, wipE, envS, outV, outI, in_e, in_p, in_s, in_w, kd_end', pe_, ee_, kt_, kf_, at_0, at_1, at_2, ownL, List.replicate, isB, sizeLine, cont_nx, cont_ct, -in_ss, -mod_ii, -rng1_i, -rng2_i, stepB, e2, e3, e4, e5, e6]
      · rw [if_pos (by rfl)]
        simp -implicitDefEqProofs [s_seq, s_nx, s_brk, s_cnt, s_ret, s_retN, s_iff, s_for, s_asg, s_par2, s_par3, s_drop, s_newL, s_newD, s_app, s_ext, s_frz, s_fgt, thenS_nx, thenS_rt, thenS_bk, thenS_ct, iteS_t, iteS_f, iteE_t, iteE_f, andE_t, andE_f, andT_t, andT_f, orT_t, orT_f, e_con, e_var, e_o1, e_o2, e_m2, e_on, e_ot, e_ok, e_and, e_ifx, e_sl, e_lc, e_disp, e_bor, e_oix, t_tst, t_tb, t_tru, t_not, t_and, t_or, t_yes, evA, evO, evW, evP, evG, evGs, getE, setE, forE, wipE, envS, outV, outI, in_e, in_p, in_s, in_w, kd_end', pe_, ee_, kt_, kf_, at_0, at_1, at_2, ownL, List.replicate, isB, sizeLine, cont_nx, cont_ct, -in_ss, -mod_ii, -rng1_i, -rng2_i, stepB, e2, e3, e4, e5, e6]
        omega
theorem least_rows {m w p : Nat} {A : Int → Int → Bool} (P : Pc m w A) (L : Least A p) : Least (fun i => rowS w (A i)) p := by
  have key : ∀ i j : Int, rowS w (A i) = rowS w (A j) ↔ A i = A j := fun i j => by
    constructor
    · intro h
      funext z
      have h0 := Int.emod_nonneg z (by have := P.w1; omega : (w : Int) ≠ 0)
      have h1 := Int.emod_lt_of_pos z (by have := P.w1; omega : 0 < (w : Int))
      obtain ⟨r, hr⟩ := Int.eq_ofNat_of_zero_le h0
      rw [← P.J i z, ← P.J j z, hr]
      exact rowS_eq.mp h r (by omega)
    · intro h
      rw [h]
  exact ⟨L.pos, fun i => (key _ _).mpr (L.per i), fun q h1 h2 => L.le q h1 fun i => (key _ _).mp (h2 i)⟩
theorem _root_.MV.Pc.flip {m w : Nat} {A : Int → Int → Bool} (P : Pc m w A) : Pc w m fun j i => A i j := ⟨P.w1, P.w2, P.m1, P.m2, P.pj, P.pi⟩
theorem F_periods_eq {m w p q : Nat} {A : Int → Int → Bool} (P : Pc m w A) (L : Least A p) (K : Least (fun j i => A i j) q) : F_periods [clo m w A] = .ret (.tup [.int p, .int q]) := by
  have f1 : fldF "picks" (clo m w A) = some (pic m w A) := rfl
  have e1 : F_least_period [pic m w A] = .ret (.int p) := F_least_period_eq P.m1 P.m2 len_pic (fun k h0 h1 => ix_pic h0 h1) (fun i => by rw [show A (i + m) = A i from P.pi i]) (least_rows P L)
  have e2 : F_least_period [.lst ((List.range w).map fun j => .str (rowS m fun i => A i (j : Nat)))] = .ret (.int q) := F_least_period_eq (g := fun j => rowS m fun i => A i j) P.w1 P.w2 (by simp) (fun k h0 h1 => by
    show L2.atI _ _ = _
    rw [at_map h0 h1, Int.toNat_of_nonneg h0]) (fun j => by
      have := P.pj j
      show rowS m (fun i => A i (j + w)) = _
      rw [show (fun i => A i (j + w)) = fun i => A i j from this]) (least_rows P.flip K)
  unfold F_periods q_periods runF
  simp -implicitDefEqProofs [s_seq, s_nx, s_brk, s_cnt, s_ret, s_retN, s_iff, s_for, s_asg, s_par2, s_par3, s_drop, s_newL, s_newD, s_app, s_ext, s_frz, s_fgt, thenS_nx, thenS_rt, thenS_bk, thenS_ct, iteS_t, iteS_f, iteE_t, iteE_f, andE_t, andE_f, andT_t, andT_f, orT_t, orT_f, e_con, e_var, e_o1, e_o2, e_m2, e_on, e_ot, e_ok, e_and, e_ifx, e_sl, e_lc, e_disp, e_bor, e_oix, t_tst, t_tb, t_tru, t_not, t_and, t_or, t_yes, evA, evO, evW, evP, evG, evGs, getE, setE, forE, wipE, envS, outV, outI, in_e, in_p, in_s, in_w, kd_end', pe_, ee_, kt_, kf_, at_0, at_1, at_2, ownL, List.replicate, isB, sizeLine, cont_nx, cont_ct, -in_ss, -mod_ii, -rng1_i, -rng2_i, f1, ix_pic0 P.m1, len_row P.w2, rng_n P.w2]
  rw [rints_map, lcB_map (f := fun j : Nat => .str (rowS m fun i => A i (j : Nat))) (by simp; have := P.w2; omega) ?_]
  · simp -implicitDefEqProofs [s_seq, s_nx, s_brk, s_cnt, s_ret, s_retN, s_iff, s_for, s_asg, s_par2, s_par3, s_drop, s_newL, s_newD, s_app, s_ext, s_frz, s_fgt, thenS_nx, thenS_rt, thenS_bk, thenS_ct, iteS_t, iteS_f, iteE_t, iteE_f, andE_t, andE_f, andT_t, andT_f, orT_t, orT_f, e_con, e_var, e_o1, e_o2, e_m2, e_on, e_ot, e_ok, e_and, e_ifx, e_sl, e_lc, e_disp, e_bor, e_oix, t_tst, t_tb, t_tru, t_not, t_and, t_or, t_yes, evA, evO, evW, evP, evG, evGs, getE, setE, forE, wipE, envS, outV, outI, in_e, in_p, in_s, in_w, kd_end', pe_, ee_, kt_, kf_, at_0, at_1, at_2, ownL, List.replicate, isB, sizeLine, cont_nx, cont_ct, -in_ss, -mod_ii, -rng1_i, -rng2_i, f1, e1, e2]
  · intro j hj
    have hj := List.mem_range.mp hj
    have e4 : itemsD (pic m w A) = some ((List.range m).map fun i => .str (rowS w (A (i : Nat)))) := rfl
    simp -implicitDefEqProofs [s_seq, s_nx, s_brk, s_cnt, s_ret, s_retN, s_iff, s_for, s_asg, s_par2, s_par3, s_drop, s_newL, s_newD, s_app, s_ext, s_frz, s_fgt, thenS_nx, thenS_rt, thenS_bk, thenS_ct, iteS_t, iteS_f, iteE_t, iteE_f, andE_t, andE_f, andT_t, andT_f, orT_t, orT_f, e_con, e_var, e_o1, e_o2, e_m2, e_on, e_ot, e_ok, e_and, e_ifx, e_sl, e_lc, e_disp, e_bor, e_oix, t_tst, t_tb, t_tru, t_not, t_and, t_or, t_yes, evA, evO, evW, evP, evG, evGs, getE, setE, forE, wipE, envS, outV, outI, in_e, in_p, in_s, in_w, kd_end', pe_, ee_, kt_, kf_, at_0, at_1, at_2, ownL, List.replicate, isB, sizeLine, cont_nx, cont_ct, -in_ss, -mod_ii, -rng1_i, -rng2_i, stepL, slotsG, f1, e4]
    rw [lcB_map (f := fun i : Nat => .str (sgnS (A (i : Nat) (j : Nat)))) (by simp; have := P.m2; omega) ?_]
    · simp -implicitDefEqProofs [s_seq, s_nx, s_brk, s_cnt, s_ret, s_retN, s_iff, s_for, s_asg, s_par2, s_par3, s_drop, s_newL, s_newD, s_app, s_ext, s_frz, s_fgt, thenS_nx, thenS_rt, thenS_bk, thenS_ct, iteS_t, iteS_f, iteE_t, iteE_f, andE_t, andE_f, andT_t, andT_f, orT_t, orT_f, e_con, e_var, e_o1, e_o2, e_m2, e_on, e_ot, e_ok, e_and, e_ifx, e_sl, e_lc, e_disp, e_bor, e_oix, t_tst, t_tb, t_tru, t_not, t_and, t_or, t_yes, evA, evO, evW, evP, evG, evGs, getE, setE, forE, wipE, envS, outV, outI, in_e, in_p, in_s, in_w, kd_end', pe_, ee_, kt_, kf_, at_0, at_1, at_2, ownL, List.replicate, isB, sizeLine, cont_nx, cont_ct, -in_ss, -mod_ii, -rng1_i, -rng2_i, join_row (f := fun i => A i (j : Nat)) P.m2]
    · intro i hi
      have := ix_row (w := w) (f := A (i : Nat)) (k := (j : Nat)) P.w2 (by omega) (by omega)
      simp -implicitDefEqProofs [s_seq, s_nx, s_brk, s_cnt, s_ret, s_retN, s_iff, s_for, s_asg, s_par2, s_par3, s_drop, s_newL, s_newD, s_app, s_ext, s_frz, s_fgt, thenS_nx, thenS_rt, thenS_bk, thenS_ct, iteS_t, iteS_f, iteE_t, iteE_f, andE_t, andE_f, andT_t, andT_f, orT_t, orT_f, e_con, e_var, e_o1, e_o2, e_m2, e_on, e_ot, e_ok, e_and, e_ifx, e_sl, e_lc, e_disp, e_bor, e_oix, t_tst, t_tb, t_tru, t_not, t_and, t_or, t_yes, evA, evO, evW, evP, evG, evGs, getE, setE, forE, wipE, envS, outV, outI, in_e, in_p, in_s, in_w, kd_end', pe_, ee_, kt_, kf_, at_0, at_1, at_2, ownL, List.replicate, isB, sizeLine, cont_nx, cont_ct, -in_ss, -mod_ii, -rng1_i, -rng2_i, stepL, slotsG, this]
end K60

set_option Elab.async false
set_option linter.all false
set_option maxRecDepth 100000
set_option maxHeartbeats 2000000
namespace K60
open PySem PySem.Spec L2 DL MV
theorem cut_lo {ds : List Dv} {k : Nat} (h : k ≤ ds.length) : cutD ds (some (k : Int)) none = ds.drop k := by
  unfold cutD HT.sIx
  simp only
  rw [if_neg (by omega), Int.toNat_natCast, Nat.min_eq_left h, List.take_of_length_le (by simp)]
theorem cut_hi {ds : List Dv} {k : Nat} (h : k ≤ ds.length) : cutD ds none (some (k : Int)) = ds.take k := by
  unfold cutD HT.sIx
  simp only
  rw [if_neg (by omega), Int.toNat_natCast, Nat.min_eq_left h]
  simp
theorem cutS_lo {z : Str} {k : Nat} (h : k ≤ z.length) : cutS z (some (k : Int)) none = ⟨(z.cps.toList.drop k).toArray⟩ := by
  unfold cutS HT.sIx
  simp only
  rw [if_neg (by omega), Int.toNat_natCast, Nat.min_eq_left h, List.take_of_length_le (by simp [Str.length])]
theorem cutS_hi {z : Str} {k : Nat} (h : k ≤ z.length) : cutS z none (some (k : Int)) = ⟨(z.cps.toList.take k).toArray⟩ := by
  unfold cutS HT.sIx
  simp only
  rw [if_neg (by omega), Int.toNat_natCast, Nat.min_eq_left h]
  simp
section
variable {m w : Nat} {A : Int → Int → Bool}
theorem rows_len : (rows m w A).length = m := by simp [rows]
def dR (m w : Nat) (A : Int → Int → Bool) (k : Nat) : Dv := .tup (((rows m w A).drop (k + 1)).map Dv.str)
def tR (m w : Nat) (A : Int → Int → Bool) (k : Nat) : Dv := .tup (((rows m w A).take (k + 1)).map Dv.str)
def rR (m w : Nat) (A : Int → Int → Bool) (k : Nat) : Dv := .tup (((rows m w A).drop (k + 1) ++ (rows m w A).take (k + 1)).map Dv.str)
def pB (m w : Nat) (A : Int → Int → Bool) (k : Nat) : Bool := decide ((rows m w A).drop (k + 1) ++ (rows m w A).take (k + 1) = rows m w A)
theorem sl_pic1 {k : Nat} (h : k < m) : slF (pic m w A) (some (1 + (k : Int))) none = some (dR m w A k) := by
  unfold dR
  rw [pic_rows, sl_t, show (1 : Int) + k = ((k + 1 : Nat) : Int) from by omega, cut_lo (by simp [rows_len]; omega), List.map_drop]
theorem sl_pic2 {k : Nat} (h : k < m) : slF (pic m w A) none (some (1 + (k : Int))) = some (tR m w A k) := by
  unfold tR
  rw [pic_rows, sl_t, show (1 : Int) + k = ((k + 1 : Nat) : Int) from by omega, cut_hi (by simp [rows_len]; omega), List.map_take]
theorem add_rot {k : Nat} (hm : m ≤ 1000) : addF (dR m w A k) (tR m w A k) = some (rR m w A k) := by
  unfold dR tR rR
  rw [add_tt, decide_eq_true, gO_true, List.map_append]
  simp [rows_len, sizeLine]
  omega
theorem eq_rot {k : Nat} : eqF (rR m w A k) (pic m w A) = some (pB m w A k) := by
  unfold rR pB
  rw [pic_rows]
  refine eq_strs (fun s hs => ?_) (rows_ok m w A)
  rcases List.mem_append.mp hs with z | z
  · exact rows_ok m w A s (List.mem_of_mem_drop z)
  · exact rows_ok m w A s (List.mem_of_mem_take z)
theorem rows_inj (P : Pc m w A) (i j : Int) : rowS w (A i) = rowS w (A j) ↔ A i = A j := by
  constructor
  · intro h
    funext z
    have h0 := Int.emod_nonneg z (by have := P.w1; omega : (w : Int) ≠ 0)
    have h1 := Int.emod_lt_of_pos z (by have := P.w1; omega : 0 < (w : Int))
    obtain ⟨r, hr⟩ := Int.eq_ofNat_of_zero_le h0
    rw [← P.J i z, ← P.J j z, hr]
    exact rowS_eq.mp h r (by omega)
  · intro h
    rw [h]
theorem rot_rows {k : Nat} (P : Pc m w A) (h : k < m) : pB m w A k = true ↔ Per A ((k + 1 : Nat) : Int) := by
  unfold pB
  rw [decide_eq_true_eq]
  have h1 := rot_iff (f := fun i => rowS w (A i)) (k := k + 1) P.m1 (by omega) (fun i => by show rowS w (A (i + m)) = rowS w (A i); rw [show A (i + m) = A i from P.pi i])
  refine h1.trans ⟨fun z i => (rows_inj P _ _).mp (z i), fun z i => (rows_inj P _ _).mpr (z i)⟩
def dropS (k : Nat) (z : Str) : Str := ⟨(z.cps.toList.drop k).toArray⟩
def takeS (k : Nat) (z : Str) : Str := ⟨(z.cps.toList.take k).toArray⟩
variable {f : Int → Bool}
theorem sl_row1 {k : Nat} (hw : w ≤ 1000) (h : k < w) : slF (.str (rowS w f)) (some (1 + (k : Int))) none = some (.str (dropS (k + 1) (rowS w f))) := by
  unfold slF
  simp only [rowS_len]
  rw [decide_eq_true (by unfold sizeLine; omega), show (1 : Int) + k = ((k + 1 : Nat) : Int) from by omega, cutS_lo (by rw [rowS_len]; omega)]
  rfl
theorem sl_row2 {k : Nat} (hw : w ≤ 1000) (h : k < w) : slF (.str (rowS w f)) none (some (1 + (k : Int))) = some (.str (takeS (k + 1) (rowS w f))) := by
  unfold slF
  simp only [rowS_len]
  rw [decide_eq_true (by unfold sizeLine; omega), show (1 : Int) + k = ((k + 1 : Nat) : Int) from by omega, cutS_hi (by rw [rowS_len]; omega)]
  rfl
theorem add_rowR {k : Nat} (hw0 : 1 ≤ w) (hw : w ≤ 1000) (h : k < w) (P : Per f w) : addF (.str (dropS (k + 1) (rowS w f))) (.str (takeS (k + 1) (rowS w f))) = some (.str (rowS w fun j => f (j + (k + 1 : Nat)))) := by
  have e : dropS (k + 1) (rowS w f) ++ takeS (k + 1) (rowS w f) = rowS w fun j => f (j + (k + 1 : Nat)) := by
    refine str_eq ?_
    show ((dropS (k + 1) (rowS w f)).cps ++ (takeS (k + 1) (rowS w f)).cps).toList = _
    rw [Array.toList_append, rowS_list]
    show (rowS w f).cps.toList.drop (k + 1) ++ (rowS w f).cps.toList.take (k + 1) = _
    rw [rowS_list]
    exact rot_eq (f := fun j => sgnC (f j)) hw0 (by omega) fun i => by show sgnC (f (i + w)) = _; rw [P i]
  rw [add_ss, e, decide_eq_true, gO_true]
  simp [dropS, takeS, Str.length, rowS, sizeLine]
  omega
theorem at_head {α : Type} (l : List α) : L2.atI l 0 = l.head? := by
  cases l with
  | nil => rfl
  | cons a l => exact at_0
theorem head_filter {n p : Nat} {c : Nat → Bool} {g : Nat → Dv} (hp : 1 ≤ p) (hn : p ≤ n) (h1 : c (p - 1) = true) (h2 : ∀ k, k < p - 1 → c k = false) : L2.atI (((List.range n).filter c).map g) 0 = some (g (p - 1)) := by
  rw [at_head, List.head?_map, List.head?_filter]
  have : (List.range n).find? c = some (p - 1) := List.find?_range_eq_some.mpr ⟨h1, List.mem_range.mpr (by omega), fun j hj => by rw [h2 j hj]; rfl⟩
  rw [this]
  rfl
def rw1 (w : Nat) (A : Int → Int → Bool) (i k : Nat) : Str := rowS w fun j => A i (j + (k + 1 : Nat))
def pL (m w : Nat) (A : Int → Int → Bool) (k : Nat) : Bool := ((List.range m).filter fun i : Nat => !(rw1 w A i k == rowS w (A i))).isEmpty
def fnd (m w : Nat) (A : Int → Int → Bool) (n : Nat) : List Dv := ((List.range n).filter (pL m w A)).map fun k : Nat => .int (1 + (k : Int))
theorem pL_iff {k : Nat} (P : Pc m w A) : pL m w A k = true ↔ Per (fun j i => A i j) ((k + 1 : Nat) : Int) := by
  unfold pL
  rw [List.isEmpty_iff, List.filter_eq_nil_iff]
  constructor
  · intro h
    have h1 : ∀ i : Nat, i < m → ∀ j : Int, A i (j + (k + 1 : Nat)) = A i j := fun i hi => by
      have := h i (List.mem_range.mpr hi)
      simp only [Bool.not_eq_true', beq_eq_false_iff_ne, ne_eq, Decidable.not_not, rw1] at this
      refine per_on P.w1 (fun j => congrFun (P.pj j) i) fun j hj => ?_
      exact rowS_eq.mp this j hj
    intro j
    funext i
    have h0 := Int.emod_nonneg i (by have := P.m1; omega : (m : Int) ≠ 0)
    have h2 := Int.emod_lt_of_pos i (by have := P.m1; omega : 0 < (m : Int))
    obtain ⟨r, hr⟩ := Int.eq_ofNat_of_zero_le h0
    show A i (j + (k + 1 : Nat)) = A i j
    rw [← P.I i, ← P.I i j, hr]
    exact h1 r (by omega) j
  · intro h i hi
    simp only [Bool.not_eq_true', beq_eq_false_iff_ne, ne_eq, Decidable.not_not, rw1]
    exact rowS_eq.mpr fun j _ => congrFun (h j) i
theorem F__law_periods_eq {p q : Nat} (P : Pc m w A) (L : Least A p) (K : Least (fun j i => A i j) q) : F__law_periods [pic m w A] = .ret (.tup [.int p, .int q]) := by
  have hpm := L.le m P.m1 P.pi
  have hqw := K.le w P.w1 P.pj
  have r1 : ∀ n : Nat, n ≤ 1000 → rng2F [.int 1, .int ((n : Int) + 1)] = some (rints 1 n) := fun n hn => by
    rw [rng2_i, decide_eq_true (by omega), gO_true, show ((n : Int) + 1 - 1).toNat = n from by omega]
  have e1 : L2.atI (((List.range m).filter (pB m w A)).map fun k : Nat => Dv.int (1 + (k : Int))) 0 = some (.int p) := by
    rw [head_filter L.pos hpm]
    · have := L.pos
      congr 2
      omega
    · have := L.pos
      rw [rot_rows P (by omega), show p - 1 + 1 = p from by omega]
      exact L.per
    · intro k hk
      rw [← Bool.not_eq_true, rot_rows P (by omega)]
      intro z
      have := L.le (k + 1) (by omega) z
      omega
  have e2 : L2.atI (fnd m w A w) 0 = some (.int q) := by
    unfold fnd
    rw [head_filter K.pos hqw]
    · have := K.pos
      congr 2
      omega
    · have := K.pos
      rw [pL_iff P, show q - 1 + 1 = q from by omega]
      exact K.per
    · intro k hk
      rw [← Bool.not_eq_true, pL_iff P]
      intro z
      have := K.le (k + 1) (by omega) z
      omega
  unfold F__law_periods q__law_periods runF
  simp -implicitDefEqProofs [s_seq, s_nx, s_brk, s_cnt, s_ret, s_retN, s_iff, s_for, s_asg, s_par2, s_par3, s_drop, s_newL, s_newD, s_app, s_ext, s_frz, s_fgt, thenS_nx, thenS_rt, thenS_bk, thenS_ct, iteS_t, iteS_f, iteE_t, iteE_f, andE_t, andE_f, andT_t, andT_f, orT_t, orT_f, e_con, e_var, e_o1, e_o2, e_m2, e_on, e_ot, e_ok, e_and, e_ifx, e_sl, e_lc, e_disp, e_bor, e_oix, t_tst, t_tb, t_tru, t_not, t_and, t_or, t_yes, evA, evO, evW, evP, evG, evGs, getE, setE, forE, wipE, envS, outV, outI, in_e, in_p, in_s, in_w, kd_end', pe_, ee_, kt_, kf_, at_0, at_1, at_2, ownL, List.replicate, isB, sizeLine, cont_nx, cont_ct, -in_ss, -mod_ii, -rng1_i, -rng2_i, len_pic, r1 m P.m2]
  rw [rints_map, lcB_filter (pB m w A) (f := fun k : Nat => .int (1 + (k : Int))) (by simp; have := P.m2; omega) ?_]
  · simp -implicitDefEqProofs [s_seq, s_nx, s_brk, s_cnt, s_ret, s_retN, s_iff, s_for, s_asg, s_par2, s_par3, s_drop, s_newL, s_newD, s_app, s_ext, s_frz, s_fgt, thenS_nx, thenS_rt, thenS_bk, thenS_ct, iteS_t, iteS_f, iteE_t, iteE_f, andE_t, andE_f, andT_t, andT_f, orT_t, orT_f, e_con, e_var, e_o1, e_o2, e_m2, e_on, e_ot, e_ok, e_and, e_ifx, e_sl, e_lc, e_disp, e_bor, e_oix, t_tst, t_tb, t_tru, t_not, t_and, t_or, t_yes, evA, evO, evW, evP, evG, evGs, getE, setE, forE, wipE, envS, outV, outI, in_e, in_p, in_s, in_w, kd_end', pe_, ee_, kt_, kf_, at_0, at_1, at_2, ownL, List.replicate, isB, sizeLine, cont_nx, cont_ct, -in_ss, -mod_ii, -rng1_i, -rng2_i, e1, ix_pic0 P.m1, len_row P.w2, r1 w P.w2]
    rw [forB_set 2 (fun n => some (.own (.lst (fnd m w A n)))) rfl ?_]
    · simp -implicitDefEqProofs [s_seq, s_nx, s_brk, s_cnt, s_ret, s_retN, s_iff, s_for, s_asg, s_par2, s_par3, s_drop, s_newL, s_newD, s_app, s_ext, s_frz, s_fgt, thenS_nx, thenS_rt, thenS_bk, thenS_ct, iteS_t, iteS_f, iteE_t, iteE_f, andE_t, andE_f, andT_t, andT_f, orT_t, orT_f, e_con, e_var, e_o1, e_o2, e_m2, e_on, e_ot, e_ok, e_and, e_ifx, e_sl, e_lc, e_disp, e_bor, e_oix, t_tst, t_tb, t_tru, t_not, t_and, t_or, t_yes, evA, evO, evW, evP, evG, evGs, getE, setE, forE, wipE, envS, outV, outI, in_e, in_p, in_s, in_w, kd_end', pe_, ee_, kt_, kf_, at_0, at_1, at_2, ownL, List.replicate, isB, sizeLine, cont_nx, cont_ct, -in_ss, -mod_ii, -rng1_i, -rng2_i, e2, obD]
    · intro k hk
      have e4 : itemsD (pic m w A) = some ((List.range m).map fun i => .str (rowS w (A (i : Nat)))) := rfl
      have e5 : (fnd m w A k).length ≤ k := by
        unfold fnd
        rw [List.length_map]
        exact Nat.le_trans (List.length_filter_le _ _) (by simp)
      have e6 : (fnd m w A k).length + 1 ≤ 16777216 := by have := P.w2; omega
      have e7 : (fnd m w A k).length ≤ 16777216 := by omega
      have e8 : fnd m w A (k + 1) = fnd m w A k ++ if pL m w A k = true then [.int (1 + (k : Int))] else [] := by
        unfold fnd
        rw [List.range_succ, List.filter_append, List.map_append]
        congr 1
        rw [List.filter_cons]
        split <;> simp
      simp -implicitDefEqProofs [s_seq, s_nx, s_brk, s_cnt, s_ret, s_retN, s_iff, s_for, s_asg, s_par2, s_par3, s_drop, s_newL, s_newD, s_app, s_ext, s_frz, s_fgt, thenS_nx, thenS_rt, thenS_bk, thenS_ct, iteS_t, iteS_f, iteE_t, iteE_f, andE_t, andE_f, andT_t, andT_f, orT_t, orT_f, e_con, e_var, e_o1, e_o2, e_m2, e_on, e_ot, e_ok, e_and, e_ifx, e_sl, e_lc, e_disp, e_bor, e_oix, t_tst, t_tb, t_tru, t_not, t_and, t_or, t_yes, evA, evO, evW, evP, evG, evGs, getE, setE, forE, wipE, envS, outV, outI, in_e, in_p, in_s, in_w, kd_end', pe_, ee_, kt_, kf_, at_0, at_1, at_2, ownL, List.replicate, isB, sizeLine, cont_nx, cont_ct, -in_ss, -mod_ii, -rng1_i, -rng2_i, stepB, e4]
      rw [lcB_filter (fun i : Nat => !(rw1 w A i k == rowS w (A i))) (f := fun i : Nat => .str (rowS w (A (i : Nat)))) (by simp; have := P.m2; omega) ?_]
      · have e9 : (((List.range m).filter fun i : Nat => !(rw1 w A i k == rowS w (A i))).map fun i : Nat => Dv.str (rowS w (A (i : Nat)))).isEmpty = pL m w A k := by
          unfold pL
          simp
        generalize (((List.range m).filter fun i : Nat => !(rw1 w A i k == rowS w (A i))).map fun i : Nat => Dv.str (rowS w (A (i : Nat)))) = LL at e9 ⊢
        cases hp : pL m w A k <;> simp -implicitDefEqProofs [s_seq, s_nx, s_brk, s_cnt, s_ret, s_retN, s_iff, s_for, s_asg, s_par2, s_par3, s_drop, s_newL, s_newD, s_app, s_ext, s_frz, s_fgt, thenS_nx, thenS_rt, thenS_bk, thenS_ct, iteS_t, iteS_f, iteE_t, iteE_f, andE_t, andE_f, andT_t, andT_f, orT_t, orT_f, e_con, e_var, e_o1, e_o2, e_m2, e_on, e_ot, e_ok, e_and, e_ifx, e_sl, e_lc, e_disp, e_bor, e_oix, t_tst, t_tb, t_tru, t_not, t_and, t_or, t_yes, evA, evO, evW, evP, evG, evGs, getE, setE, forE, wipE, envS, outV, outI, in_e, in_p, in_s, in_w, kd_end', pe_, ee_, kt_, kf_, at_0, at_1, at_2, ownL, List.replicate, isB, sizeLine, cont_nx, cont_ct, -in_ss, -mod_ii, -rng1_i, -rng2_i, e9, hp, e6, e7, e8]
      · intro i hi
        have hi := List.mem_range.mp hi
        have a1 : addF (.str (dropS (k + 1) (rowS w (A i)))) (.str (takeS (k + 1) (rowS w (A i)))) = some (.str (rw1 w A i k)) := add_rowR P.w1 P.w2 hk fun j => congrFun (P.pj j) i
        cases hq : (rw1 w A i k == rowS w (A i)) <;> simp -implicitDefEqProofs [s_seq, s_nx, s_brk, s_cnt, s_ret, s_retN, s_iff, s_for, s_asg, s_par2, s_par3, s_drop, s_newL, s_newD, s_app, s_ext, s_frz, s_fgt, thenS_nx, thenS_rt, thenS_bk, thenS_ct, iteS_t, iteS_f, iteE_t, iteE_f, andE_t, andE_f, andT_t, andT_f, orT_t, orT_f, e_con, e_var, e_o1, e_o2, e_m2, e_on, e_ot, e_ok, e_and, e_ifx, e_sl, e_lc, e_disp, e_bor, e_oix, t_tst, t_tb, t_tru, t_not, t_and, t_or, t_yes, evA, evO, evW, evP, evG, evGs, getE, setE, forE, wipE, envS, outV, outI, in_e, in_p, in_s, in_w, kd_end', pe_, ee_, kt_, kf_, at_0, at_1, at_2, ownL, List.replicate, isB, sizeLine, cont_nx, cont_ct, -in_ss, -mod_ii, -rng1_i, -rng2_i, stepL, slotsG, sl_row1 P.w2 hk, sl_row2 P.w2 hk, a1, hq]
  · intro k hk
    have hk := List.mem_range.mp hk
    cases hp : pB m w A k <;> simp -implicitDefEqProofs [s_seq, s_nx, s_brk, s_cnt, s_ret, s_retN, s_iff, s_for, s_asg, s_par2, s_par3, s_drop, s_newL, s_newD, s_app, s_ext, s_frz, s_fgt, thenS_nx, thenS_rt, thenS_bk, thenS_ct, iteS_t, iteS_f, iteE_t, iteE_f, andE_t, andE_f, andT_t, andT_f, orT_t, orT_f, e_con, e_var, e_o1, e_o2, e_m2, e_on, e_ot, e_ok, e_and, e_ifx, e_sl, e_lc, e_disp, e_bor, e_oix, t_tst, t_tb, t_tru, t_not, t_and, t_or, t_yes, evA, evO, evW, evP, evG, evGs, getE, setE, forE, wipE, envS, outV, outI, in_e, in_p, in_s, in_w, kd_end', pe_, ee_, kt_, kf_, at_0, at_1, at_2, ownL, List.replicate, isB, sizeLine, cont_nx, cont_ct, -in_ss, -mod_ii, -rng1_i, -rng2_i, stepL, slotsG, sl_pic1 hk, sl_pic2 hk, add_rot P.m2, eq_rot, hp]
end
end K60

set_option Elab.async false
set_option linter.all false
set_option maxRecDepth 100000
set_option maxHeartbeats 2000000
namespace K60
open PySem PySem.Spec L2 DL MV
theorem ix_sp0 {s : Sp0} : ixF (spot s) (.int 0) = some (.str (kd s.k)) := at_0
theorem ix_sp1 {s : Sp0} : ixF (spot s) (.int 1) = some (.int s.i) := at_1
theorem ix_mo0 {a : Mo} : ixF (mo a) (.int 0) = some (.str (tx a.t)) := at_0
theorem ep_ : ((("end" : Str)) == "pick") = false := by decide +kernel
theorem kd_beq (a b : Bool) : (kd a == kd b) = (a == b) := by cases a <;> cases b <;> decide +kernel
theorem fld_clo {m w : Nat} {A : Int → Int → Bool} : fldF "picks" (clo m w A) = some (pic m w A) := rfl
section
variable {m w : Nat} {A : Int → Int → Bool}
/-- a strand of the picture -/
def inP (m w : Nat) (s : Sp0) : Prop := 0 ≤ s.i ∧ s.i < (if s.k = true then w else m : Nat)
theorem F_is_over_eq (P : Pc m w A) {s r : Sp0} (hs : inP m w s) (hr : inP m w r) (h : s.k ≠ r.k) : F_is_over [clo m w A, spot s, spot r] = .ret (.bl (over A s r)) := by
  obtain ⟨k, i⟩ := s
  obtain ⟨l, j⟩ := r
  obtain ⟨h1, h2⟩ := hs
  obtain ⟨h3, h4⟩ := hr
  unfold F_is_over q_is_over runF
  cases k <;> cases l <;> simp at h
  · simp at h1 h2 h3 h4
    simp -implicitDefEqProofs [s_seq, s_nx, s_brk, s_cnt, s_ret, s_retN, s_iff, s_for, s_asg, s_par2, s_par3, s_drop, s_newL, s_newD, s_app, s_ext, s_frz, s_fgt, thenS_nx, thenS_rt, thenS_bk, thenS_ct, iteS_t, iteS_f, iteE_t, iteE_f, andE_t, andE_f, andT_t, andT_f, orT_t, orT_f, e_con, e_var, e_o1, e_o2, e_m2, e_on, e_ot, e_ok, e_and, e_ifx, e_sl, e_lc, e_disp, e_bor, e_oix, t_tst, t_tb, t_tru, t_not, t_and, t_or, t_yes, evA, evO, evW, evP, evG, evGs, getE, setE, forE, wipE, envS, outV, outI, in_e, in_p, in_s, in_w, kd_end', pe_, ee_, kt_, kf_, at_0, at_1, at_2, ownL, List.replicate, isB, sizeLine, cont_nx, cont_ct, -in_ss, -mod_ii, -rng1_i, -rng2_i, ix_sp0, ix_sp1, kd_beq, fld_clo, ix_pic h1 h2, ix_row P.w2 h3 h4, sgnS_d, sgnS_x, over, ep_]
  · simp at h1 h2 h3 h4
    simp -implicitDefEqProofs [s_seq, s_nx, s_brk, s_cnt, s_ret, s_retN, s_iff, s_for, s_asg, s_par2, s_par3, s_drop, s_newL, s_newD, s_app, s_ext, s_frz, s_fgt, thenS_nx, thenS_rt, thenS_bk, thenS_ct, iteS_t, iteS_f, iteE_t, iteE_f, andE_t, andE_f, andT_t, andT_f, orT_t, orT_f, e_con, e_var, e_o1, e_o2, e_m2, e_on, e_ot, e_ok, e_and, e_ifx, e_sl, e_lc, e_disp, e_bor, e_oix, t_tst, t_tb, t_tru, t_not, t_and, t_or, t_yes, evA, evO, evW, evP, evG, evGs, getE, setE, forE, wipE, envS, outV, outI, in_e, in_p, in_s, in_w, kd_end', pe_, ee_, kt_, kf_, at_0, at_1, at_2, ownL, List.replicate, isB, sizeLine, cont_nx, cont_ct, -in_ss, -mod_ii, -rng1_i, -rng2_i, ix_sp0, ix_sp1, kd_beq, fld_clo, ix_pic h3 h4, ix_row P.w2 h1 h2, sgnS_d, sgnS_x, over, ep_]
def sps (p q : Nat) : List Sp0 := ((List.range q).map fun k : Nat => ⟨true, k⟩) ++ ((List.range p).map fun k : Nat => ⟨false, k⟩)
theorem mem_sps {p q : Nat} {s : Sp0} (h : s ∈ sps p q) : inP p q s := by
  rcases List.mem_append.mp h with z | z
  · obtain ⟨k, hk, rfl⟩ := List.mem_map.mp z
    have := List.mem_range.mp hk
    exact ⟨by simp, by simp; omega⟩
  · obtain ⟨k, hk, rfl⟩ := List.mem_map.mp z
    have := List.mem_range.mp hk
    exact ⟨by simp, by simp; omega⟩
theorem F__law_spots_eq {p q : Nat} (P : Pc m w A) (L : Least A p) (K : Least (fl A) q) : F__law_spots [pic m w A] = .ret (.lst ((sps p q).map spot)) := by
  have hpm := L.le m P.m1 P.pi
  have hqw := K.le w P.w1 P.pj
  have hm := P.m2
  have hw := P.w2
  have e3 : q + p ≤ 16777216 := by omega
  unfold F__law_spots q__law_spots runF
  simp -implicitDefEqProofs [s_seq, s_nx, s_brk, s_cnt, s_ret, s_retN, s_iff, s_for, s_asg, s_par2, s_par3, s_drop, s_newL, s_newD, s_app, s_ext, s_frz, s_fgt, thenS_nx, thenS_rt, thenS_bk, thenS_ct, iteS_t, iteS_f, iteE_t, iteE_f, andE_t, andE_f, andT_t, andT_f, orT_t, orT_f, e_con, e_var, e_o1, e_o2, e_m2, e_on, e_ot, e_ok, e_and, e_ifx, e_sl, e_lc, e_disp, e_bor, e_oix, t_tst, t_tb, t_tru, t_not, t_and, t_or, t_yes, evA, evO, evW, evP, evG, evGs, getE, setE, forE, wipE, envS, outV, outI, in_e, in_p, in_s, in_w, kd_end', pe_, ee_, kt_, kf_, at_0, at_1, at_2, ownL, List.replicate, isB, sizeLine, cont_nx, cont_ct, -in_ss, -mod_ii, -rng1_i, -rng2_i, F__law_periods_eq P L K, rng_n (show q ≤ 1000 by omega)]
  rw [rints_map, lcB_map (f := fun k : Nat => spot ⟨true, k⟩) (by simp; omega) fun k _ => by simp -implicitDefEqProofs [s_seq, s_nx, s_brk, s_cnt, s_ret, s_retN, s_iff, s_for, s_asg, s_par2, s_par3, s_drop, s_newL, s_newD, s_app, s_ext, s_frz, s_fgt, thenS_nx, thenS_rt, thenS_bk, thenS_ct, iteS_t, iteS_f, iteE_t, iteE_f, andE_t, andE_f, andT_t, andT_f, orT_t, orT_f, e_con, e_var, e_o1, e_o2, e_m2, e_on, e_ot, e_ok, e_and, e_ifx, e_sl, e_lc, e_disp, e_bor, e_oix, t_tst, t_tb, t_tru, t_not, t_and, t_or, t_yes, evA, evO, evW, evP, evG, evGs, getE, setE, forE, wipE, envS, outV, outI, in_e, in_p, in_s, in_w, kd_end', pe_, ee_, kt_, kf_, at_0, at_1, at_2, ownL, List.replicate, isB, sizeLine, cont_nx, cont_ct, -in_ss, -mod_ii, -rng1_i, -rng2_i, stepL, slotsG, spot]]
  simp -implicitDefEqProofs [s_seq, s_nx, s_brk, s_cnt, s_ret, s_retN, s_iff, s_for, s_asg, s_par2, s_par3, s_drop, s_newL, s_newD, s_app, s_ext, s_frz, s_fgt, thenS_nx, thenS_rt, thenS_bk, thenS_ct, iteS_t, iteS_f, iteE_t, iteE_f, andE_t, andE_f, andT_t, andT_f, orT_t, orT_f, e_con, e_var, e_o1, e_o2, e_m2, e_on, e_ot, e_ok, e_and, e_ifx, e_sl, e_lc, e_disp, e_bor, e_oix, t_tst, t_tb, t_tru, t_not, t_and, t_or, t_yes, evA, evO, evW, evP, evG, evGs, getE, setE, forE, wipE, envS, outV, outI, in_e, in_p, in_s, in_w, kd_end', pe_, ee_, kt_, kf_, at_0, at_1, at_2, ownL, List.replicate, isB, sizeLine, cont_nx, cont_ct, -in_ss, -mod_ii, -rng1_i, -rng2_i, rng_n (show p ≤ 1000 by omega)]
  rw [rints_map, lcB_map (f := fun k : Nat => spot ⟨false, k⟩) (by simp; omega) fun k _ => by simp -implicitDefEqProofs [s_seq, s_nx, s_brk, s_cnt, s_ret, s_retN, s_iff, s_for, s_asg, s_par2, s_par3, s_drop, s_newL, s_newD, s_app, s_ext, s_frz, s_fgt, thenS_nx, thenS_rt, thenS_bk, thenS_ct, iteS_t, iteS_f, iteE_t, iteE_f, andE_t, andE_f, andT_t, andT_f, orT_t, orT_f, e_con, e_var, e_o1, e_o2, e_m2, e_on, e_ot, e_ok, e_and, e_ifx, e_sl, e_lc, e_disp, e_bor, e_oix, t_tst, t_tb, t_tru, t_not, t_and, t_or, t_yes, evA, evO, evW, evP, evG, evGs, getE, setE, forE, wipE, envS, outV, outI, in_e, in_p, in_s, in_w, kd_end', pe_, ee_, kt_, kf_, at_0, at_1, at_2, ownL, List.replicate, isB, sizeLine, cont_nx, cont_ct, -in_ss, -mod_ii, -rng1_i, -rng2_i, stepL, slotsG, spot]]
  simp -implicitDefEqProofs [s_seq, s_nx, s_brk, s_cnt, s_ret, s_retN, s_iff, s_for, s_asg, s_par2, s_par3, s_drop, s_newL, s_newD, s_app, s_ext, s_frz, s_fgt, thenS_nx, thenS_rt, thenS_bk, thenS_ct, iteS_t, iteS_f, iteE_t, iteE_f, andE_t, andE_f, andT_t, andT_f, orT_t, orT_f, e_con, e_var, e_o1, e_o2, e_m2, e_on, e_ot, e_ok, e_and, e_ifx, e_sl, e_lc, e_disp, e_bor, e_oix, t_tst, t_tb, t_tru, t_not, t_and, t_or, t_yes, evA, evO, evW, evP, evG, evGs, getE, setE, forE, wipE, envS, outV, outI, in_e, in_p, in_s, in_w, kd_end', pe_, ee_, kt_, kf_, at_0, at_1, at_2, ownL, List.replicate, isB, sizeLine, cont_nx, cont_ct, -in_ss, -mod_ii, -rng1_i, -rng2_i, sps, e3]
  rfl
/-! ### a paper by strands -/
def key (s : Sp0) : List Key := [.inr (kd s.k), .inl s.i]
theorem keyT_sp (s : Sp0) : keyT (spot s) = some (key s) := rfl
theorem key_inj {s r : Sp0} (h : key s = key r) : s = r := by
  obtain ⟨k, i⟩ := s
  obtain ⟨l, j⟩ := r
  simp only [key, List.cons.injEq, Sum.inr.injEq, Sum.inl.injEq, and_true] at h
  obtain ⟨h1, rfl⟩ := h
  have : (kd k == kd l) = true := beq_iff_eq.mpr h1
  rw [kd_beq, beq_iff_eq] at this
  rw [this]
theorem lk_map (k k' : List Key) (d : Dv) : ∀ es : List (List Key × Dv), lkL (es.map fun kv => if kv.1 = k then (kv.1, d) else kv) k' = if k = k' then (if es.any (fun kv => decide (kv.1 = k)) = true then some d else none) else lkL es k'
  | [] => by simp [lkL]
  | e :: es => by
    have ih := lk_map k k' d es
    unfold lkL at ih ⊢
    by_cases z : e.1 = k
    · by_cases y : k = k'
      · simp [z, y]
      · have y2 : ¬ e.1 = k' := by rw [z]; exact y
        rw [if_neg y] at ih ⊢
        simp only [List.map_cons, if_pos z, List.find?_cons, decide_eq_false y2]
        exact ih
    · by_cases y : k = k'
      · subst y
        rw [if_pos rfl] at ih ⊢
        simp only [List.map_cons, if_neg z, List.find?_cons, decide_eq_false z, List.any_cons, Bool.false_or]
        exact ih
      · rw [if_neg y] at ih ⊢
        by_cases x : e.1 = k'
        · simp only [List.map_cons, if_neg z, List.find?_cons, decide_eq_true x]
        · simp only [List.map_cons, if_neg z, List.find?_cons, decide_eq_false x]
          exact ih
theorem lk_put (es : List (List Key × Dv)) (k k' : List Key) (d : Dv) : lkL (putL es k d) k' = if k = k' then some d else lkL es k' := by
  unfold putL
  split
  · rename_i h
    rw [lk_map, if_pos h]
  · rename_i h
    unfold lkL
    rw [List.find?_append]
    by_cases y : k = k'
    · subst y
      have : es.find? (fun kv => decide (kv.1 = k)) = none := by
        rw [List.find?_eq_none]
        intro x hx hy
        exact h (List.any_eq_true.mpr ⟨x, hx, hy⟩)
      rw [this]
      simp
    · simp [y]
theorem putL_len (es : List (List Key × Dv)) (k : List Key) (d : Dv) : (putL es k d).length ≤ es.length + 1 := by
  unfold putL
  split <;> simp
/-- what is told of the first strands -/
def gl (due : Sp0 → Dv) : List Sp0 → List (List Key × Dv) → List (List Key × Dv)
  | [], es => es
  | s :: l, es => gl due l (putL es (key s) (due s))
theorem gl_app (due : Sp0 → Dv) (s : Sp0) : ∀ (l : List Sp0) (es : List (List Key × Dv)), gl due (l ++ [s]) es = putL (gl due l es) (key s) (due s)
  | [], es => rfl
  | r :: l, es => gl_app due s l _
theorem gl_len (due : Sp0 → Dv) : ∀ (l : List Sp0) (es : List (List Key × Dv)), (gl due l es).length ≤ es.length + l.length
  | [], es => by simp [gl]
  | r :: l, es => by
    have h1 := gl_len due l (putL es (key r) (due r))
    have h2 := putL_len es (key r) (due r)
    simp only [gl, List.length_cons]
    omega
theorem gl_lk (due : Sp0 → Dv) (s : Sp0) : ∀ (l : List Sp0) (es : List (List Key × Dv)), (s ∈ l ∨ lkL es (key s) = some (due s)) → lkL (gl due l es) (key s) = some (due s)
  | [], es, h => by
    rcases h with h | h
    · cases h
    · exact h
  | r :: l, es, h => by
    refine gl_lk due s l _ ?_
    by_cases z : key r = key s
    · right
      have := key_inj z
      subst this
      rw [lk_put, if_pos rfl]
    · rcases h with h | h
      · rcases List.mem_cons.mp h with y | y
        · exact absurd (by rw [y]) z
        · exact .inl y
      · right
        rw [lk_put, if_neg z]
        exact h
theorem forB_map {α : Type} {g : Tg} {b : Sm} {fg : List Nat} {env : DL.Env} {l : List α} {enc : α → Dv} (E : Nat → DL.Env) (h0 : E 0 = env) (h : ∀ k (hk : k < l.length), contE fg (stepB g b (enc l[k]) (E k)) = some (E (k + 1))) : forB g b fg (l.map enc) env = .ret (.nx (E l.length)) := by
  have := forB_at (g := g) (b := b) (fg := fg) (items := l.map enc) E h0 fun k hk => by
    have := h k (by simpa using hk)
    simpa using this
  simpa using this
theorem log2_small {i : Int} (h0 : 0 ≤ i) (h : i < 1000) : i.natAbs.log2 ≤ 9 := by
  have h1 : i.natAbs < 2 ^ 10 := by omega
  by_cases z : i.natAbs = 0
  · rw [z]; decide
  · have := (Nat.log2_lt z).mpr h1
    omega
theorem kd_ok (k : Bool) : PyData.strOk (kd k) = true := by cases k <;> decide +kernel
theorem wt2 (a b : PyData) : (PyData.tuple [a, b]).weight = a.weight + 1 + (b.weight + 1 + 0) := by simp only [PyData.weight, PyData.weightAll]
theorem kd_wt (k : Bool) : (PyData.str (kd k)).weight ≤ 4 := by cases k <;> decide +kernel
theorem rOk_sp {s : Sp0} (h0 : 0 ≤ s.i) (h : s.i < 1000) : rOk (.lst [spot s, spot s]) = true := by
  obtain ⟨k, i⟩ := s
  have h1 : i.natAbs.log2 ≤ 9 := log2_small h0 h
  have h2 : decide (i.natAbs.log2 < 900) = true := decide_eq_true (by omega)
  have h3 : PyData.weight (.int i) ≤ 11 := by simp only [PyData.weight]; split <;> omega
  have h4 := kd_wt k
  refine rOk_of (m := 16000) (k := 60) (Ok.lst ?_ ?_ ?_) (by omega) (by omega)
  · simp only [okD, okA, spot, h2, kd_ok]
    rfl
  · simp only [pyA, py, spot, PyData.weightAll, wt2]
    omega
  · simp only [pyA, py, spot, PyData.depthAll, PyData.depth]
    omega
end
end K60

set_option Elab.async false
set_option linter.all false
set_option maxRecDepth 100000
set_option maxHeartbeats 2000000
namespace K60
open PySem PySem.Spec L2 DL MV
section
variable {m w : Nat} {A : Int → Int → Bool}
theorem evG_sp {gs : Tgs} {s : Sp0} {env : DL.Env} : evG (.tup 2 gs) (spot s) env = evGs gs [.str (kd s.k), .int s.i] env := rfl
theorem sp_fold {k : Bool} {x : Int} : Dv.tup [.str (kd k), .int x] = spot ⟨k, x⟩ := rfl
/-- the strand of the ground to which a motion leads -/
def dueS (a : Mo) (p q : Nat) (s : Sp0) : Sp0 := ⟨(led a s).k, (led a s).i % (if (led a s).k = true then q else p : Nat)⟩
theorem F_strand_led_eq {p q : Nat} (P : Pc m w A) (L : Least A p) (K : Least (fl A) q) (a : Mo) (s : Sp0) : F_strand_led [clo m w A, mo a, spot s] = .ret (spot (dueS a (if a.t.w = true then q else p) (if a.t.w = true then p else q) s)) := by
  unfold F_strand_led q_strand_led runF
  simp -implicitDefEqProofs [s_seq, s_nx, s_brk, s_cnt, s_ret, s_retN, s_iff, s_for, s_asg, s_par2, s_par3, s_drop, s_newL, s_newD, s_app, s_ext, s_frz, s_fgt, thenS_nx, thenS_rt, thenS_bk, thenS_ct, iteS_t, iteS_f, iteE_t, iteE_f, andE_t, andE_f, andT_t, andT_f, orT_t, orT_f, e_con, e_var, e_o1, e_o2, e_m2, e_on, e_ot, e_ok, e_and, e_ifx, e_sl, e_lc, e_disp, e_bor, e_oix, t_tst, t_tb, t_tru, t_not, t_and, t_or, t_yes, evA, evO, evW, evP, evG, evGs, getE, setE, forE, wipE, envS, outV, outI, in_e, in_p, in_s, in_w, kd_end', pe_, ee_, kt_, kf_, at_0, at_1, at_2, ownL, List.replicate, isB, sizeLine, cont_nx, cont_ct, -in_ss, -mod_ii, -rng1_i, -rng2_i, F_periods_eq P L K, F_strand_behind_eq p q a s L.pos K.pos]
  rfl
theorem dueS_in {a : Mo} {p q : Nat} (hp : 1 ≤ p) (hq : 1 ≤ q) (s : Sp0) : inP p q (dueS a p q s) := by
  have h1 : ∀ n : Nat, 1 ≤ n → 0 ≤ (led a s).i % (n : Int) ∧ (led a s).i % (n : Int) < n := fun n h1 => ⟨Int.emod_nonneg _ (by omega), Int.emod_lt_of_pos (led a s).i (show 0 < (n : Int) by omega)⟩
  unfold inP dueS
  simp only
  cases (led a s).k
  · exact h1 p hp
  · exact h1 q hq
theorem inP_le {p q : Nat} {s : Sp0} (h : inP p q s) (hp : p ≤ m) (hq : q ≤ w) : inP m w s := by
  unfold inP at h ⊢
  cases hk : s.k <;> rw [hk] at h <;> simp at h ⊢ <;> omega
theorem over_due {p q : Nat} {B : Int → Int → Bool} {a : Mo} (L : Per B p) (K : Per (fl B) q) {s r : Sp0} (h : s.k ≠ r.k) : over B (dueS a p q s) (dueS a p q r) = over B (led a s) (led a r) := by
  have I : ∀ i j, B (i % p) j = B i j := fun i j => congrFun (L.mod i) j
  have J : ∀ i j, B i (j % q) = B i j := fun i j => congrFun (K.mod j) i
  unfold over dueS
  simp only [led_k]
  cases hs : s.k <;> cases hr : r.k <;> rw [hs, hr] at h <;> simp at h <;> cases a.t.w <;> simp [I, J]
theorem F_strands_eq {p q : Nat} (P : Pc m w A) (L : Least A p) (K : Least (fl A) q) (a : Mo) : F__law_strands_right [pic m w A, mo a] = .ret (.bl true) := by
  have hpm := L.le m P.m1 P.pi
  have hqw := K.le w P.w1 P.pj
  have hm := P.m2
  have hw := P.w2
  have L' := least_mv1 (a := a) L K
  have K' := least_mv2 (a := a) L K
  have Q := P.mv a
  have e1 := F__law_periods_eq Q L' K'
  have e2 := fun s => F_strand_led_eq P L K a s
  have e4 := F__law_moved_eq P a
  have ov := fun s r => over_led (A := A) (a := a) s r
  generalize (if a.t.w = true then q else p) = p' at L' e1 e2
  generalize (if a.t.w = true then p else q) = q' at K' e1 e2
  generalize mvM a m w = m' at Q e1 e4
  generalize mvW a m w = w' at Q e1 e4
  generalize mvA a A = B at L' K' Q e1 e4 ov
  have hpm' := L'.le m' Q.m1 Q.pi
  have hqw' := K'.le w' Q.w1 Q.pj
  have hp' := L'.pos
  have hq' := K'.pos
  have dd := fun s => dueS_in (a := a) hp' hq' s
  have dr : ∀ s, 0 ≤ (dueS a p' q' s).i ∧ (dueS a p' q' s).i < 1000 := fun s => by
    have h1 := dd s
    have h2 := Q.m2
    have h3 := Q.w2
    unfold inP at h1
    refine ⟨h1.1, ?_⟩
    have := h1.2
    split at this <;> omega
  unfold F__law_strands_right q__law_strands_right runF
  simp -implicitDefEqProofs [s_seq, s_nx, s_brk, s_cnt, s_ret, s_retN, s_iff, s_for, s_asg, s_par2, s_par3, s_drop, s_newL, s_newD, s_app, s_ext, s_frz, s_fgt, thenS_nx, thenS_rt, thenS_bk, thenS_ct, iteS_t, iteS_f, iteE_t, iteE_f, andE_t, andE_f, andT_t, andT_f, orT_t, orT_f, e_con, e_var, e_o1, e_o2, e_m2, e_on, e_ot, e_ok, e_and, e_ifx, e_sl, e_lc, e_disp, e_bor, e_oix, t_tst, t_tb, t_tru, t_not, t_and, t_or, t_yes, evA, evO, evW, evP, evG, evGs, getE, setE, forE, wipE, envS, outV, outI, in_e, in_p, in_s, in_w, kd_end', pe_, ee_, kt_, kf_, at_0, at_1, at_2, ownL, List.replicate, isB, sizeLine, cont_nx, cont_ct, -in_ss, -mod_ii, -rng1_i, -rng2_i, F_Cloth_eq P, e4, e1, F__law_spots_eq P L K, evIs, evI]
  rw [forB_map (l := sps p q) (enc := spot) (fun k => [some (.fz (pic m w A)), some (.fz (mo a)), some (.fz (clo m w A)), some (.fz (pic m' w' B)), some (.fz (.int (p' : Int))), some (.fz (.int (q' : Int))), some (.fz (.lst ((sps p q).map spot))), some (.own (.dct (gl (fun s => spot (dueS a p' q' s)) ((sps p q).take k) []))), none, none, none, none, none, none, none]) (by simp [gl]) ?_]
  · have e5 : ∀ s ∈ sps p q, getVF (.dct (gl (fun s => spot (dueS a p' q' s)) ((sps p q).take (sps p q).length) [])) (spot s) = some (spot (dueS a p' q' s)) := fun s hs => by
      unfold getVF lkV
      rw [keyT_sp]
      simp only
      rw [gl_lk _ s _ _ (.inl (by rw [List.take_length]; exact hs))]
    generalize gl (fun s => spot (dueS a p' q' s)) ((sps p q).take (sps p q).length) [] = G at e5 ⊢
    simp -implicitDefEqProofs [s_seq, s_nx, s_brk, s_cnt, s_ret, s_retN, s_iff, s_for, s_asg, s_par2, s_par3, s_drop, s_newL, s_newD, s_app, s_ext, s_frz, s_fgt, thenS_nx, thenS_rt, thenS_bk, thenS_ct, iteS_t, iteS_f, iteE_t, iteE_f, andE_t, andE_f, andT_t, andT_f, orT_t, orT_f, e_con, e_var, e_o1, e_o2, e_m2, e_on, e_ot, e_ok, e_and, e_ifx, e_sl, e_lc, e_disp, e_bor, e_oix, t_tst, t_tb, t_tru, t_not, t_and, t_or, t_yes, evA, evO, evW, evP, evG, evGs, getE, setE, forE, wipE, envS, outV, outI, in_e, in_p, in_s, in_w, kd_end', pe_, ee_, kt_, kf_, at_0, at_1, at_2, ownL, List.replicate, isB, sizeLine, cont_nx, cont_ct, -in_ss, -mod_ii, -rng1_i, -rng2_i, obD, F_Cloth_eq Q]
    rw [forB_map (l := sps p q) (enc := spot) (fun _ => [some (.fz (pic m w A)), some (.fz (mo a)), some (.fz (clo m w A)), some (.fz (pic m' w' B)), some (.fz (.int (p' : Int))), some (.fz (.int (q' : Int))), some (.fz (.lst ((sps p q).map spot))), some (.fz (.dct G)), none, none, none, none, some (.fz (clo m' w' B)), none, none]) rfl ?_]
    · simp -implicitDefEqProofs [s_seq, s_nx, s_brk, s_cnt, s_ret, s_retN, s_iff, s_for, s_asg, s_par2, s_par3, s_drop, s_newL, s_newD, s_app, s_ext, s_frz, s_fgt, thenS_nx, thenS_rt, thenS_bk, thenS_ct, iteS_t, iteS_f, iteE_t, iteE_f, andE_t, andE_f, andT_t, andT_f, orT_t, orT_f, e_con, e_var, e_o1, e_o2, e_m2, e_on, e_ot, e_ok, e_and, e_ifx, e_sl, e_lc, e_disp, e_bor, e_oix, t_tst, t_tb, t_tru, t_not, t_and, t_or, t_yes, evA, evO, evW, evP, evG, evGs, getE, setE, forE, wipE, envS, outV, outI, in_e, in_p, in_s, in_w, kd_end', pe_, ee_, kt_, kf_, at_0, at_1, at_2, ownL, List.replicate, isB, sizeLine, cont_nx, cont_ct, -in_ss, -mod_ii, -rng1_i, -rng2_i]
    · intro k hk
      have hs := List.getElem_mem hk
      generalize (sps p q)[k] = s at hs ⊢
      simp -implicitDefEqProofs [s_seq, s_nx, s_brk, s_cnt, s_ret, s_retN, s_iff, s_for, s_asg, s_par2, s_par3, s_drop, s_newL, s_newD, s_app, s_ext, s_frz, s_fgt, thenS_nx, thenS_rt, thenS_bk, thenS_ct, iteS_t, iteS_f, iteE_t, iteE_f, andE_t, andE_f, andT_t, andT_f, orT_t, orT_f, e_con, e_var, e_o1, e_o2, e_m2, e_on, e_ot, e_ok, e_and, e_ifx, e_sl, e_lc, e_disp, e_bor, e_oix, t_tst, t_tb, t_tru, t_not, t_and, t_or, t_yes, evA, evO, evW, evP, evG, evGs, getE, setE, forE, wipE, envS, outV, outI, in_e, in_p, in_s, in_w, kd_end', pe_, ee_, kt_, kf_, at_0, at_1, at_2, ownL, List.replicate, isB, sizeLine, cont_nx, cont_ct, -in_ss, -mod_ii, -rng1_i, -rng2_i, stepB]
      rw [forB_map (l := sps p q) (enc := spot) (fun _ => [some (.fz (pic m w A)), some (.fz (mo a)), some (.fz (clo m w A)), some (.fz (pic m' w' B)), some (.fz (.int (p' : Int))), some (.fz (.int (q' : Int))), some (.fz (.lst ((sps p q).map spot))), some (.fz (.dct G)), none, none, none, none, some (.fz (clo m' w' B)), some (.fz (spot s)), none]) rfl ?_]
      · simp -implicitDefEqProofs [s_seq, s_nx, s_brk, s_cnt, s_ret, s_retN, s_iff, s_for, s_asg, s_par2, s_par3, s_drop, s_newL, s_newD, s_app, s_ext, s_frz, s_fgt, thenS_nx, thenS_rt, thenS_bk, thenS_ct, iteS_t, iteS_f, iteE_t, iteE_f, andE_t, andE_f, andT_t, andT_f, orT_t, orT_f, e_con, e_var, e_o1, e_o2, e_m2, e_on, e_ot, e_ok, e_and, e_ifx, e_sl, e_lc, e_disp, e_bor, e_oix, t_tst, t_tb, t_tru, t_not, t_and, t_or, t_yes, evA, evO, evW, evP, evG, evGs, getE, setE, forE, wipE, envS, outV, outI, in_e, in_p, in_s, in_w, kd_end', pe_, ee_, kt_, kf_, at_0, at_1, at_2, ownL, List.replicate, isB, sizeLine, cont_nx, cont_ct, -in_ss, -mod_ii, -rng1_i, -rng2_i]
      · intro l hl
        have hr := List.getElem_mem hl
        generalize (sps p q)[l] = r at hr ⊢
        have is := inP_le (mem_sps hs) hpm hqw
        have ir := inP_le (mem_sps hr) hpm hqw
        by_cases hk : s.k = r.k
        · simp -implicitDefEqProofs [s_seq, s_nx, s_brk, s_cnt, s_ret, s_retN, s_iff, s_for, s_asg, s_par2, s_par3, s_drop, s_newL, s_newD, s_app, s_ext, s_frz, s_fgt, thenS_nx, thenS_rt, thenS_bk, thenS_ct, iteS_t, iteS_f, iteE_t, iteE_f, andE_t, andE_f, andT_t, andT_f, orT_t, orT_f, e_con, e_var, e_o1, e_o2, e_m2, e_on, e_ot, e_ok, e_and, e_ifx, e_sl, e_lc, e_disp, e_bor, e_oix, t_tst, t_tb, t_tru, t_not, t_and, t_or, t_yes, evA, evO, evW, evP, evG, evGs, getE, setE, forE, wipE, envS, outV, outI, in_e, in_p, in_s, in_w, kd_end', pe_, ee_, kt_, kf_, at_0, at_1, at_2, ownL, List.replicate, isB, sizeLine, cont_nx, cont_ct, -in_ss, -mod_ii, -rng1_i, -rng2_i, stepB, ix_sp0, kd_beq, hk]
        · have hk2 : (s.k == r.k) = false := beq_eq_false_iff_ne.mpr hk
          have hk3 : (dueS a p' q' s).k ≠ (dueS a p' q' r).k := by
            show (led a s).k ≠ (led a r).k
            rw [led_k, led_k]
            cases hs : s.k <;> cases hr : r.k <;> rw [hs, hr] at hk <;> simp at hk <;> cases a.t.w <;> decide
          have o1 := F_is_over_eq P is ir hk
          have o2 := F_is_over_eq Q (inP_le (dd s) hpm' hqw') (inP_le (dd r) hpm' hqw') hk3
          have o3 := F_is_over_eq Q (inP_le (dd r) hpm' hqw') (inP_le (dd s) hpm' hqw') (Ne.symm hk3)
          rw [over_due L'.per K'.per hk, ov s r hk] at o2
          rw [over_due L'.per K'.per (Ne.symm hk), ov r s (Ne.symm hk)] at o3
          have o4 : over A r s = !over A s r := by
            unfold over
            cases hs : s.k <;> cases hr : r.k <;> rw [hs, hr] at hk <;> simp at hk ⊢
          rw [o4] at o3
          have e6 := e5 s hs
          have e7 := e5 r hr
          revert o1 o2 o3
          generalize over A s r = X
          intro o1 o2 o3
          cases hx : X <;> cases ht : a.t.s <;> rw [hx] at o1 o2 o3 <;> rw [ht] at o2 o3 <;> simp at o2 o3 <;> simp -implicitDefEqProofs [s_seq, s_nx, s_brk, s_cnt, s_ret, s_retN, s_iff, s_for, s_asg, s_par2, s_par3, s_drop, s_newL, s_newD, s_app, s_ext, s_frz, s_fgt, thenS_nx, thenS_rt, thenS_bk, thenS_ct, iteS_t, iteS_f, iteE_t, iteE_f, andE_t, andE_f, andT_t, andT_f, orT_t, orT_f, e_con, e_var, e_o1, e_o2, e_m2, e_on, e_ot, e_ok, e_and, e_ifx, e_sl, e_lc, e_disp, e_bor, e_oix, t_tst, t_tb, t_tru, t_not, t_and, t_or, t_yes, evA, evO, evW, evP, evG, evGs, getE, setE, forE, wipE, envS, outV, outI, in_e, in_p, in_s, in_w, kd_end', pe_, ee_, kt_, kf_, at_0, at_1, at_2, ownL, List.replicate, isB, sizeLine, cont_nx, cont_ct, -in_ss, -mod_ii, -rng1_i, -rng2_i, stepB, ix_sp0, ix_mo0, kd_beq, hk2, o1, o2, o3, e6, e7, ht]
  · intro k hk
    have e8 : gl (fun s => spot (dueS a p' q' s)) ((sps p q).take (k + 1)) [] = putL (gl (fun s => spot (dueS a p' q' s)) ((sps p q).take k) []) (key (sps p q)[k]) (spot (dueS a p' q' (sps p q)[k])) := by
      rw [← List.take_append_getElem hk, gl_app]
    have e9 : (gl (fun s => spot (dueS a p' q' s)) ((sps p q).take k) []).length < 16777216 := by
      have h1 := gl_len (fun s => spot (dueS a p' q' s)) ((sps p q).take k) []
      have h2 : (sps p q).length = q + p := by simp [sps]
      simp at h1
      omega
    rw [e8]
    generalize gl (fun s => spot (dueS a p' q' s)) ((sps p q).take k) [] = G at e9 ⊢
    generalize (sps p q)[k] = s
    have d1 : dueS a p' q' s = ⟨(led a s).k, (led a s).i % (if (led a s).k = true then q' else p' : Nat)⟩ := rfl
    have r1 := rOk_sp (dr s).1 (dr s).2
    have e2 := e2 s
    have e10 := F__law_led_eq a s
    have e11 := keyT_sp s
    cases hk : (led a s).k <;> rw [hk] at d1 <;> simp at d1 <;> rw [d1] at r1 e2 ⊢ <;> simp only [spot, hk, kt_, kf_] at r1 e2 e10 e11 ⊢ <;> simp -implicitDefEqProofs [s_seq, s_nx, s_brk, s_cnt, s_ret, s_retN, s_iff, s_for, s_asg, s_par2, s_par3, s_drop, s_newL, s_newD, s_app, s_ext, s_frz, s_fgt, thenS_nx, thenS_rt, thenS_bk, thenS_ct, iteS_t, iteS_f, iteE_t, iteE_f, andE_t, andE_f, andT_t, andT_f, orT_t, orT_f, e_con, e_var, e_o1, e_o2, e_m2, e_on, e_ot, e_ok, e_and, e_ifx, e_sl, e_lc, e_disp, e_bor, e_oix, t_tst, t_tb, t_tru, t_not, t_and, t_or, t_yes, evA, evO, evW, evP, evG, evGs, getE, setE, forE, wipE, envS, outV, outI, in_e, in_p, in_s, in_w, kd_end', pe_, ee_, kt_, kf_, at_0, at_1, at_2, ownL, List.replicate, isB, sizeLine, cont_nx, cont_ct, -in_ss, -mod_ii, -rng1_i, -rng2_i, stepB, e10, hk, mod_n hp', mod_n hq', e2, kwP, reprF, r1, ownT, e11, e9]
end
end K60

set_option Elab.async false
set_option linter.all false
set_option maxRecDepth 100000
set_option maxHeartbeats 2000000
namespace K60
open PySem PySem.Spec L2 DL MV
section
variable {m w : Nat} {A B : Int → Int → Bool}
theorem ok_strs (w : Nat) : ∀ l : List Str, (∀ s ∈ l, PyData.strOk s = true ∧ s.cps.size ≤ w) → okA (l.map Dv.str) = true ∧ PyData.weightAll (pyA (l.map Dv.str)) ≤ l.length * (w + 1) ∧ PyData.depthAll (pyA (l.map Dv.str)) = 0
  | [], _ => by simp [okA, pyA, PyData.weightAll, PyData.depthAll]
  | a :: l, h => by
    obtain ⟨h1, h2, h3⟩ := ok_strs w l fun s hs => h s (List.mem_cons_of_mem _ hs)
    obtain ⟨h4, h5⟩ := h a List.mem_cons_self
    refine ⟨?_, ?_, ?_⟩
    · simp only [List.map_cons, okA, okD, h4, h1]
      rfl
    · simp only [List.map_cons, pyA, py, PyData.weightAll, PyData.weight, List.length_cons, Nat.add_mul]
      omega
    · simp only [List.map_cons, pyA, py, PyData.depthAll, PyData.depth, h3]
      rfl
theorem Ok_pic (m w : Nat) (A : Int → Int → Bool) (hm : m ≤ 40) (hw : w ≤ 40) : Ok 1640 1 (pic m w A) := by
  obtain ⟨h1, h2, h3⟩ := ok_strs w (rows m w A) fun s hs => ⟨rows_ok m w A s hs, by
    obtain ⟨i, _, rfl⟩ := List.mem_map.mp hs
    exact Nat.le_of_eq (rowS_len w _)⟩
  rw [pic_rows]
  rw [rows_len] at h2
  have : m * (w + 1) ≤ 40 * 41 := Nat.mul_le_mul hm (by omega)
  exact Ok.tup h1 (by omega) (by omega)
theorem rOk_pic (hm : m ≤ 40) (hw : w ≤ 40) : rOk (pic m w A) = true := rOk_of (Ok_pic m w A hm hw) (by omega) (by omega)
theorem rOk_pic2 (hm : m ≤ 40) (hw : w ≤ 40) : rOk (.lst [pic m w A, pic m w A]) = true := by
  have h := Ok_pic m w A hm hw
  have h1 := h.ok
  have h2 := h.wt
  have h3 := h.dp
  refine rOk_of (m := 16000) (k := 60) (Ok.lst ?_ ?_ ?_) (by omega) (by omega)
  · simp only [okA, h1]
    rfl
  · simp only [pyA, PyData.weightAll]
    omega
  · simp only [pyA, PyData.depthAll]
    omega
theorem eq_pic : eqF (pic m w A) (pic m w A) = some true := by
  rw [pic_rows, eq_strs (rows_ok m w A) (rows_ok m w A), decide_eq_true rfl]
theorem ne_pic : neF (pic m w A) (pic m w A) = some false := by
  rw [pic_rows, ne_strs (rows_ok m w A) (rows_ok m w A), decide_eq_true rfl]
  rfl
theorem F_Cloth_eq_eq : F_Cloth___eq__ [clo m w A, clo m w A] = .ret (.bl true) := by
  have : isCF "Cloth" (clo m w A) = some true := rfl
  unfold F_Cloth___eq__ q_Cloth___eq__ runF
  simp -implicitDefEqProofs [s_seq, s_nx, s_brk, s_cnt, s_ret, s_retN, s_iff, s_for, s_asg, s_par2, s_par3, s_drop, s_newL, s_newD, s_app, s_ext, s_frz, s_fgt, thenS_nx, thenS_rt, thenS_bk, thenS_ct, iteS_t, iteS_f, iteE_t, iteE_f, andE_t, andE_f, andT_t, andT_f, orT_t, orT_f, e_con, e_var, e_o1, e_o2, e_m2, e_on, e_ot, e_ok, e_and, e_ifx, e_sl, e_lc, e_disp, e_bor, e_oix, t_tst, t_tb, t_tru, t_not, t_and, t_or, t_yes, evA, evO, evW, evP, evG, evGs, getE, setE, forE, wipE, envS, outV, outI, in_e, in_p, in_s, in_w, kd_end', pe_, ee_, kt_, kf_, at_0, at_1, at_2, ownL, List.replicate, isB, sizeLine, cont_nx, cont_ct, -in_ss, -mod_ii, -rng1_i, -rng2_i, this, fld_clo, eq_pic]
theorem ins_clo : insP "Cloth" (clo m w A) = true := rfl
theorem F_right_eq (P : Pc m w A) (hm : m ≤ 40) (hw : w ≤ 40) (a b : Mo) : F__law_right [pic m w A, mo a, mo b] = .ret (.bl true) := by
  obtain ⟨p, L, _⟩ := Least.ex P.m1 P.pi
  obtain ⟨q, K, _⟩ := Least.ex P.w1 P.pj
  have Q := P.mv a
  have e1 := F_moved_eq P a Q
  have e2 := F__law_moved_eq P a
  have e3 := F_moved_eq Q b (Q.mv b)
  have e4 := F__law_moved_eq Q b
  have e5 := F_moved_eq P (beh a b) (P.mv _)
  have e6 := F_moved_eq Q (back a) (Q.mv _)
  have hM : mvM a m w ≤ 40 := by unfold mvM; split <;> omega
  have hW : mvW a m w ≤ 40 := by unfold mvW; split <;> omega
  have r1 := rOk_pic2 (A := mvA a A) hM hW
  have r2 := rOk_pic (A := A) hm hw
  have s1 := F_strands_eq P L K a
  rw [mvM_beh, mvW_beh, mvA_beh] at e3 e4
  rw [mvM_beh, mvW_beh, mvA_beh, beh_back, mvA_one, show mvM one0 m w = m from rfl, show mvW one0 m w = w from rfl] at e6
  unfold F__law_right q__law_right runF
  simp -implicitDefEqProofs [s_seq, s_nx, s_brk, s_cnt, s_ret, s_retN, s_iff, s_for, s_asg, s_par2, s_par3, s_drop, s_newL, s_newD, s_app, s_ext, s_frz, s_fgt, thenS_nx, thenS_rt, thenS_bk, thenS_ct, iteS_t, iteS_f, iteE_t, iteE_f, andE_t, andE_f, andT_t, andT_f, orT_t, orT_f, e_con, e_var, e_o1, e_o2, e_m2, e_on, e_ot, e_ok, e_and, e_ifx, e_sl, e_lc, e_disp, e_bor, e_oix, t_tst, t_tb, t_tru, t_not, t_and, t_or, t_yes, evA, evO, evW, evP, evG, evGs, getE, setE, forE, wipE, envS, outV, outI, in_e, in_p, in_s, in_w, kd_end', pe_, ee_, kt_, kf_, at_0, at_1, at_2, ownL, List.replicate, isB, sizeLine, cont_nx, cont_ct, -in_ss, -mod_ii, -rng1_i, -rng2_i, F_Cloth_eq P, e1, e2, e3, e4, e5, e6, fld_clo, kwP, reprF, r1, r2, F_back_of_eq, F_behind_eq, F_Cloth_eq_eq, ins_clo, ne_pic, s1]
end
end K60

set_option Elab.async false
set_option linter.all false
set_option maxRecDepth 100000
set_option maxHeartbeats 2000000
namespace K60
open PySem PySem.Spec L2 DL MV
theorem draw_eq {b : Int} : drawF "blend" [.deck "blend", .int b] = .draw b fun i => .ret (.int i) := by
  show T.grd (decide (("blend" : Str) = "blend")) _ = _
  rw [decide_eq_true rfl]
  rfl
theorem wp_draw {α : Type} {b : Int} {k : Int → T α} {n : Nat} {R : Nat → α → Prop} {E : Nat → Dv → Prop} (h1 : 0 < b) (h2 : b < 1073741824) (h3 : 2 ≤ n) (h : ∀ i, 0 ≤ i → i < b → (k i).wp (n - 2) R E) : (T.draw b k).wp n R E := ⟨h1, h2, h3, h⟩
theorem wp_drawN {α : Type} {b : Nat} {k : Int → T α} {n : Nat} {R : Nat → α → Prop} {E : Nat → Dv → Prop} (h1 : 0 < b) (h2 : b < 1073741824) (h3 : 2 ≤ n) (h : ∀ i : Nat, i < b → (k (i : Int)).wp (n - 2) R E) : (T.draw (b : Int) k).wp n R E := wp_draw (by omega) (by omega) h3 fun i h4 h5 => by
  have e : i = (i.toNat : Int) := by omega
  rw [e]
  exact h _ (by omega)
theorem wp_ret {α : Type} {a : α} {n : Nat} {R : Nat → α → Prop} {E : Nat → Dv → Prop} (h : R n a) : (T.ret a).wp n R E := h
theorem thenS_draw {b : Int} {k : Int → T Out} {c : Sm} : thenS (.draw b k) c = .draw b fun i => thenS (k i) c := rfl
def TS : List Tn := [⟨false, false, false, false⟩, ⟨true, false, false, false⟩, ⟨true, true, false, false⟩, ⟨true, true, true, false⟩, ⟨true, true, true, true⟩, ⟨true, true, false, true⟩, ⟨true, false, true, false⟩, ⟨true, false, true, true⟩, ⟨true, false, false, true⟩, ⟨false, true, false, false⟩, ⟨false, true, true, false⟩, ⟨false, true, true, true⟩, ⟨false, true, false, true⟩, ⟨false, false, true, false⟩, ⟨false, false, true, true⟩, ⟨false, false, false, true⟩]
theorem F_turns_eq : F__law_turns [] = .ret (.lst (TS.map fun t => .str (tx t))) := by kernel_rfl
theorem at_TS {i : Int} (h0 : 0 ≤ i) (h1 : i < 16) : ∃ t, L2.atI (TS.map fun t => Dv.str (tx t)) i = some (.str (tx t)) := by
  have h : i.toNat < (TS.map fun t => Dv.str (tx t)).length := by rw [List.length_map]; show i.toNat < 16; omega
  refine ⟨TS[i.toNat]'(by rw [List.length_map] at h; exact h), ?_⟩
  rw [at_nat h0 h]
  simp
theorem len_TS : lenF [.lst (TS.map fun t => Dv.str (tx t))] = some (.int 16) := rfl
theorem F_motion_wp {n : Nat} {R : Nat → Dv → Prop} {E : Nat → Dv → Prop} (hn : 10 ≤ n) (h : ∀ n' a, n ≤ n' + 10 → R n' (mo a)) : (F__law_motion [.deck "blend"]).wp n R E := by
  unfold F__law_motion q__law_motion runF
  have e1 : F__law_pick [.deck "blend", .lst (TS.map fun t => Dv.str (tx t))] = .draw 16 fun i => T.ofO (L2.atI (TS.map fun t => Dv.str (tx t)) i) := by
    have e := len_TS
    generalize (TS.map fun t => Dv.str (tx t)) = LL at e ⊢
    unfold F__law_pick q__law_pick runF
    simp -implicitDefEqProofs [s_seq, s_nx, s_brk, s_cnt, s_ret, s_retN, s_iff, s_for, s_asg, s_par2, s_par3, s_drop, s_newL, s_newD, s_app, s_ext, s_frz, s_fgt, thenS_nx, thenS_rt, thenS_bk, thenS_ct, iteS_t, iteS_f, iteE_t, iteE_f, andE_t, andE_f, andT_t, andT_f, orT_t, orT_f, e_con, e_var, e_o1, e_o2, e_m2, e_on, e_ot, e_ok, e_and, e_ifx, e_sl, e_lc, e_disp, e_bor, e_oix, t_tst, t_tb, t_tru, t_not, t_and, t_or, t_yes, evA, evO, evW, evP, evG, evGs, getE, setE, forE, wipE, envS, outV, outI, in_e, in_p, in_s, in_w, kd_end', pe_, ee_, kt_, kf_, at_0, at_1, at_2, ownL, List.replicate, isB, sizeLine, cont_nx, cont_ct, -in_ss, -mod_ii, -rng1_i, -rng2_i, draw_eq, e]
    funext i
    cases L2.atI LL i <;> rfl
  generalize hL : (TS.map fun t => Dv.str (tx t)) = LL at e1
  simp -implicitDefEqProofs [s_seq, s_nx, s_brk, s_cnt, s_ret, s_retN, s_iff, s_for, s_asg, s_par2, s_par3, s_drop, s_newL, s_newD, s_app, s_ext, s_frz, s_fgt, thenS_nx, thenS_rt, thenS_bk, thenS_ct, iteS_t, iteS_f, iteE_t, iteE_f, andE_t, andE_f, andT_t, andT_f, orT_t, orT_f, e_con, e_var, e_o1, e_o2, e_m2, e_on, e_ot, e_ok, e_and, e_ifx, e_sl, e_lc, e_disp, e_bor, e_oix, t_tst, t_tb, t_tru, t_not, t_and, t_or, t_yes, evA, evO, evW, evP, evG, evGs, getE, setE, forE, wipE, envS, outV, outI, in_e, in_p, in_s, in_w, kd_end', pe_, ee_, kt_, kf_, at_0, at_1, at_2, ownL, List.replicate, isB, sizeLine, cont_nx, cont_ct, -in_ss, -mod_ii, -rng1_i, -rng2_i, draw_eq, thenS_draw, F_turns_eq, hL, e1]
  refine wp_draw (by omega) (by omega) (by omega) fun i h0 h1 => ?_
  obtain ⟨t, ht⟩ := at_TS h0 h1
  rw [hL] at ht
  simp -implicitDefEqProofs [s_seq, s_nx, s_brk, s_cnt, s_ret, s_retN, s_iff, s_for, s_asg, s_par2, s_par3, s_drop, s_newL, s_newD, s_app, s_ext, s_frz, s_fgt, thenS_nx, thenS_rt, thenS_bk, thenS_ct, iteS_t, iteS_f, iteE_t, iteE_f, andE_t, andE_f, andT_t, andT_f, orT_t, orT_f, e_con, e_var, e_o1, e_o2, e_m2, e_on, e_ot, e_ok, e_and, e_ifx, e_sl, e_lc, e_disp, e_bor, e_oix, t_tst, t_tb, t_tru, t_not, t_and, t_or, t_yes, evA, evO, evW, evP, evG, evGs, getE, setE, forE, wipE, envS, outV, outI, in_e, in_p, in_s, in_w, kd_end', pe_, ee_, kt_, kf_, at_0, at_1, at_2, ownL, List.replicate, isB, sizeLine, cont_nx, cont_ct, -in_ss, -mod_ii, -rng1_i, -rng2_i, ht, thenS_draw]
  refine wp_draw (by omega) (by omega) (by omega) fun j h2 h3 => ?_
  by_cases hj : 0 < j
  · simp -implicitDefEqProofs [s_seq, s_nx, s_brk, s_cnt, s_ret, s_retN, s_iff, s_for, s_asg, s_par2, s_par3, s_drop, s_newL, s_newD, s_app, s_ext, s_frz, s_fgt, thenS_nx, thenS_rt, thenS_bk, thenS_ct, iteS_t, iteS_f, iteE_t, iteE_f, andE_t, andE_f, andT_t, andT_f, orT_t, orT_f, e_con, e_var, e_o1, e_o2, e_m2, e_on, e_ot, e_ok, e_and, e_ifx, e_sl, e_lc, e_disp, e_bor, e_oix, t_tst, t_tb, t_tru, t_not, t_and, t_or, t_yes, evA, evO, evW, evP, evG, evGs, getE, setE, forE, wipE, envS, outV, outI, in_e, in_p, in_s, in_w, kd_end', pe_, ee_, kt_, kf_, at_0, at_1, at_2, ownL, List.replicate, isB, sizeLine, cont_nx, cont_ct, -in_ss, -mod_ii, -rng1_i, -rng2_i, hj, draw_eq, thenS_draw]
    refine wp_draw (by omega) (by omega) (by omega) fun x h4 h5 => ?_
    try simp -implicitDefEqProofs [s_seq, s_nx, s_brk, s_cnt, s_ret, s_retN, s_iff, s_for, s_asg, s_par2, s_par3, s_drop, s_newL, s_newD, s_app, s_ext, s_frz, s_fgt, thenS_nx, thenS_rt, thenS_bk, thenS_ct, iteS_t, iteS_f, iteE_t, iteE_f, andE_t, andE_f, andT_t, andT_f, orT_t, orT_f, e_con, e_var, e_o1, e_o2, e_m2, e_on, e_ot, e_ok, e_and, e_ifx, e_sl, e_lc, e_disp, e_bor, e_oix, t_tst, t_tb, t_tru, t_not, t_and, t_or, t_yes, evA, evO, evW, evP, evG, evGs, getE, setE, forE, wipE, envS, outV, outI, in_e, in_p, in_s, in_w, kd_end', pe_, ee_, kt_, kf_, at_0, at_1, at_2, ownL, List.replicate, isB, sizeLine, cont_nx, cont_ct, -in_ss, -mod_ii, -rng1_i, -rng2_i, draw_eq, thenS_draw]
    refine wp_draw (by omega) (by omega) (by omega) fun y h6 h7 => ?_
    exact wp_ret (h _ ⟨t, _, _⟩ (by omega))
  · simp -implicitDefEqProofs [s_seq, s_nx, s_brk, s_cnt, s_ret, s_retN, s_iff, s_for, s_asg, s_par2, s_par3, s_drop, s_newL, s_newD, s_app, s_ext, s_frz, s_fgt, thenS_nx, thenS_rt, thenS_bk, thenS_ct, iteS_t, iteS_f, iteE_t, iteE_f, andE_t, andE_f, andT_t, andT_f, orT_t, orT_f, e_con, e_var, e_o1, e_o2, e_m2, e_on, e_ot, e_ok, e_and, e_ifx, e_sl, e_lc, e_disp, e_bor, e_oix, t_tst, t_tb, t_tru, t_not, t_and, t_or, t_yes, evA, evO, evW, evP, evG, evGs, getE, setE, forE, wipE, envS, outV, outI, in_e, in_p, in_s, in_w, kd_end', pe_, ee_, kt_, kf_, at_0, at_1, at_2, ownL, List.replicate, isB, sizeLine, cont_nx, cont_ct, -in_ss, -mod_ii, -rng1_i, -rng2_i, hj, draw_eq, thenS_draw]
    refine wp_draw (by omega) (by omega) (by omega) fun x h4 h5 => ?_
    try simp -implicitDefEqProofs [s_seq, s_nx, s_brk, s_cnt, s_ret, s_retN, s_iff, s_for, s_asg, s_par2, s_par3, s_drop, s_newL, s_newD, s_app, s_ext, s_frz, s_fgt, thenS_nx, thenS_rt, thenS_bk, thenS_ct, iteS_t, iteS_f, iteE_t, iteE_f, andE_t, andE_f, andT_t, andT_f, orT_t, orT_f, e_con, e_var, e_o1, e_o2, e_m2, e_on, e_ot, e_ok, e_and, e_ifx, e_sl, e_lc, e_disp, e_bor, e_oix, t_tst, t_tb, t_tru, t_not, t_and, t_or, t_yes, evA, evO, evW, evP, evG, evGs, getE, setE, forE, wipE, envS, outV, outI, in_e, in_p, in_s, in_w, kd_end', pe_, ee_, kt_, kf_, at_0, at_1, at_2, ownL, List.replicate, isB, sizeLine, cont_nx, cont_ct, -in_ss, -mod_ii, -rng1_i, -rng2_i, draw_eq, thenS_draw]
    refine wp_draw (by omega) (by omega) (by omega) fun y h6 h7 => ?_
    exact wp_ret (h _ ⟨t, _, _⟩ (by omega))
/-! ### a cloth -/
def ext (m w : Nat) (f : Nat → Nat → Bool) : Int → Int → Bool := fun i j => f (i % m).toNat (j % w).toNat
theorem ext_Pc {m w : Nat} (f : Nat → Nat → Bool) (hm : 1 ≤ m) (hm2 : m ≤ 1000) (hw : 1 ≤ w) (hw2 : w ≤ 1000) : Pc m w (ext m w f) := ⟨hm, hm2, hw, hw2, fun i => by
  funext j
  simp [ext], fun j => by
  funext i
  simp [ext]⟩
theorem ext_at {m w : Nat} (f : Nat → Nat → Bool) {i j : Nat} (hi : i < m) (hj : j < w) : ext m w f i j = f i j := by
  unfold ext
  rw [Int.emod_eq_of_lt (by omega) (by omega), Int.emod_eq_of_lt (by omega) (by omega)]
  rfl
def grid (m w : Nat) (f : Nat → Nat → Bool) : List Dv := (List.range m).map fun i => .lst ((List.range w).map fun j => .str (sgnS (f i j)))
theorem join_grid {n : Nat} {g : Nat → Bool} (h : n ≤ 1000) : joinF (.str "") (.lst ((List.range n).map fun j => .str (sgnS (g j)))) = some (.str (rowS n fun j => g j.toNat)) := by
  have := join_row (n := n) (f := fun j => g j.toNat) h
  simpa using this
theorem fin_cloth {m w : Nat} (f : Nat → Nat → Bool) (hm2 : m ≤ 1000) (hw2 : w ≤ 1000) {env : DL.Env} (hs : ∀ d, stepL (.nm 15) .yes (.m2 joinO (cS "") (.var 15)) env d = (T.ofO (joinF (.str "") d)).bind fun y => .ret (some y)) : lcB (.nm 15) .yes (.m2 joinO (cS "") (.var 15)) env (grid m w f) = .ret (.lst ((List.range m).map fun i : Nat => .str (rowS w (ext m w f i)))) := by
  unfold grid
  refine lcB_map (by simp; omega) fun i hi => ?_
  have hi := List.mem_range.mp hi
  rw [hs, join_grid hw2, show rowS w (fun j => f i j.toNat) = rowS w (ext m w f i) from rowS_eq.mpr fun j hj => by rw [ext_at f hi hj]; rfl]
  rfl
theorem lcB_wp {α : Type} {g : Tg} {t : Te} {x : Ex} {env : DL.Env} {enc : α → Dv} {l : List α} {n : Nat} {R : Nat → Dv → Prop} {E : Nat → Dv → Prop} (P : Dv → Prop) (k : Nat) (hl : l.length ≤ 100000) (hn : k * l.length ≤ n)
    (h : ∀ z ∈ l, ∀ m, k ≤ m → (stepL g t x env (enc z)).wp m (fun m' o => ∃ y, o = some y ∧ P y ∧ m ≤ m' + k) E)
    (hR : ∀ m ys, n ≤ m + k * l.length → ys.length = l.length → (∀ y ∈ ys, P y) → R m (.lst ys)) : (lcB g t x env (l.map enc)).wp n R E := by
  unfold lcB
  rw [List.length_map, decide_eq_true (by unfold sizeLine; omega), T.grd_true]
  refine (T.wp_bind _ _ _).mpr (lcT_wp (l := l.map enc) P k (by rw [List.length_map]; exact hn) (fun d hd => ?_) fun m ys h1 h2 h3 => ?_)
  · obtain ⟨z, hz, rfl⟩ := List.mem_map.mp hd
    exact h z hz
  · rw [List.length_map] at h1 h2
    exact hR m ys h1 h2 h3
theorem thenS_bind {α : Type} {m : T α} {f : α → T Out} {b : Sm} : thenS (m.bind f) b = m.bind fun d => thenS (f d) b := T.bind_assoc _ _ _
theorem chooseL {X : Type} [Inhabited X] {enc : X → Dv} : ∀ {ys : List Dv}, (∀ y ∈ ys, ∃ z, y = enc z) → ∃ G : Nat → X, ys = (List.range ys.length).map fun i => enc (G i)
  | [], _ => ⟨fun _ => default, rfl⟩
  | y :: ys, h => by
    obtain ⟨z, hz⟩ := h y List.mem_cons_self
    obtain ⟨G, hG⟩ := chooseL fun y hy => h y (List.mem_cons_of_mem _ hy)
    refine ⟨fun i => match i with | 0 => z | i + 1 => G i, ?_⟩
    rw [List.length_cons, List.range_succ_eq_map, List.map_cons, List.map_map, hz]
    congr 1
theorem at_modN {n : Nat} {g : Nat → Dv} (i : Nat) (h : 1 ≤ n) : L2.atI ((List.range n).map g) ((i : Int) % n) = some (g (i % n)) := by
  rw [at_map (Int.emod_nonneg _ (by omega)) (Int.emod_lt_of_pos _ (by omega))]
  congr 2
def isSg (y : Dv) : Prop := ∃ c : Bool, y = .str (sgnS c)
def isRow (w : Nat) (y : Dv) : Prop := ∃ g : Nat → Bool, y = .lst ((List.range w).map fun j => .str (sgnS (g j)))
theorem isSg_mk (c : Bool) : isSg (.str (sgnS c)) := ⟨c, rfl⟩
theorem choose_sg {n : Nat} {ys : List Dv} (hl : ys.length = (List.range n).length) (h : ∀ y ∈ ys, isSg y) : isRow n (.lst ys) := by
  obtain ⟨g, hg⟩ := chooseL (enc := fun c : Bool => .str (sgnS c)) h
  rw [hl, List.length_range] at hg
  exact ⟨g, by rw [hg]⟩
theorem choose_row {n w : Nat} {ys : List Dv} (hl : ys.length = (List.range n).length) (h : ∀ y ∈ ys, isRow w y) : ∃ G : Nat → Nat → Bool, ys = (List.range n).map fun i => .lst ((List.range w).map fun j => .str (sgnS (G i j))) := by
  obtain ⟨g, hg⟩ := chooseL (enc := fun g : Nat → Bool => .lst ((List.range w).map fun j => .str (sgnS (g j)))) h
  rw [hl, List.length_range] at hg
  exact ⟨g, hg⟩
theorem ix_dx (b : Bool) : ixF (.str "-x") (.int (if b = true then 1 else 0)) = some (.str (sgnS b)) := by cases b <;> kernel_rfl
theorem ix_xd (b : Bool) : ixF (.str "x-") (.int (if b = true then 1 else 0)) = some (.str (sgnS (!b))) := by cases b <;> kernel_rfl
theorem F_pick_eq {LL : List Dv} {n : Nat} (e : lenF [.lst LL] = some (.int n)) : F__law_pick [.deck "blend", .lst LL] = .draw n fun i => T.ofO (L2.atI LL i) := by
  unfold F__law_pick q__law_pick runF
  simp -implicitDefEqProofs [s_seq, s_nx, s_brk, s_cnt, s_ret, s_retN, s_iff, s_for, s_asg, s_par2, s_par3, s_drop, s_newL, s_newD, s_app, s_ext, s_frz, s_fgt, thenS_nx, thenS_rt, thenS_bk, thenS_ct, iteS_t, iteS_f, iteE_t, iteE_f, andE_t, andE_f, andT_t, andT_f, orT_t, orT_f, e_con, e_var, e_o1, e_o2, e_m2, e_on, e_ot, e_ok, e_and, e_ifx, e_sl, e_lc, e_disp, e_bor, e_oix, t_tst, t_tb, t_tru, t_not, t_and, t_or, t_yes, evA, evO, evW, evP, evG, evGs, getE, setE, forE, wipE, envS, outV, outI, in_e, in_p, in_s, in_w, kd_end', pe_, ee_, kt_, kf_, at_0, at_1, at_2, ownL, List.replicate, isB, sizeLine, cont_nx, cont_ct, -in_ss, -mod_ii, -rng1_i, -rng2_i, draw_eq, e]
  funext i
  cases L2.atI LL i <;> rfl
theorem at_often {i : Int} (h0 : 0 ≤ i) (h1 : i < 4) : ∃ o : Int, L2.atI [Dv.int 2, .int 2, .int 3, .int 6] i = some (.int o) ∧ 2 ≤ o ∧ o ≤ 6 := by
  have : i = 0 ∨ i = 1 ∨ i = 2 ∨ i = 3 := by omega
  rcases this with rfl | rfl | rfl | rfl
  · exact ⟨2, rfl, by omega, by omega⟩
  · exact ⟨2, rfl, by omega, by omega⟩
  · exact ⟨3, rfl, by omega, by omega⟩
  · exact ⟨6, rfl, by omega, by omega⟩
theorem F_cloth_wp {n : Nat} {R : Nat → Dv → Prop} {E : Nat → Dv → Prop} (hn : 100 ≤ n) (h : ∀ n' m w A, Pc m w A → m ≤ 5 → w ≤ 5 → n ≤ n' + 100 → R n' (pic m w A)) : (F__law_cloth [.deck "blend", .int 5, .int 5]).wp n R E := by
  have fin : ∀ n' m w (f : Nat → Nat → Bool), 1 ≤ m → m ≤ 5 → 1 ≤ w → w ≤ 5 → n ≤ n' + 100 → R n' (.tup ((List.range m).map fun i : Nat => .str (rowS w (ext m w f i)))) := fun n' m w f h1 h2 h3 h4 h5 => h n' m w (ext m w f) (ext_Pc f h1 (by omega) h3 (by omega)) h2 h4 h5
  unfold F__law_cloth q__law_cloth runF
  simp -implicitDefEqProofs [s_seq, s_nx, s_brk, s_cnt, s_ret, s_retN, s_iff, s_for, s_asg, s_par2, s_par3, s_drop, s_newL, s_newD, s_app, s_ext, s_frz, s_fgt, thenS_nx, thenS_rt, thenS_bk, thenS_ct, iteS_t, iteS_f, iteE_t, iteE_f, andE_t, andE_f, andT_t, andT_f, orT_t, orT_f, e_con, e_var, e_o1, e_o2, e_m2, e_on, e_ot, e_ok, e_and, e_ifx, e_sl, e_lc, e_disp, e_bor, e_oix, t_tst, t_tb, t_tru, t_not, t_and, t_or, t_yes, evA, evO, evW, evP, evG, evGs, getE, setE, forE, wipE, envS, outV, outI, in_e, in_p, in_s, in_w, kd_end', pe_, ee_, kt_, kf_, at_0, at_1, at_2, ownL, List.replicate, isB, sizeLine, cont_nx, cont_ct, -in_ss, -mod_ii, -rng1_i, -rng2_i, draw_eq, thenS_draw]
  refine wp_draw (by omega) (by omega) (by omega) fun i h0 h1 => ?_
  refine wp_draw (by omega) (by omega) (by omega) fun j h2 h3 => ?_
  refine wp_draw (by omega) (by omega) (by omega) fun k h4 h5 => ?_
  obtain ⟨i, rfl⟩ := Int.eq_ofNat_of_zero_le h0
  obtain ⟨j, rfl⟩ := Int.eq_ofNat_of_zero_le h2
  have em : (1 : Int) + i = ((i + 1 : Nat) : Int) := by omega
  have ew : (1 : Int) + j = ((j + 1 : Nat) : Int) := by omega
  have hm : i + 1 ≤ 5 := by omega
  have hw : j + 1 ≤ 5 := by omega
  have hm1 : 1 ≤ i + 1 := by omega
  have hw1 : 1 ≤ j + 1 := by omega
  rw [em, ew]
  generalize i + 1 = m at hm hm1 ⊢
  generalize j + 1 = w at hw hw1 ⊢
  have rm := rng_n (show m ≤ 1000 by omega)
  have rw_ := rng_n (show w ≤ 1000 by omega)
  by_cases hk : k = 0
  · subst hk
    simp -implicitDefEqProofs [s_seq, s_nx, s_brk, s_cnt, s_ret, s_retN, s_iff, s_for, s_asg, s_par2, s_par3, s_drop, s_newL, s_newD, s_app, s_ext, s_frz, s_fgt, thenS_nx, thenS_rt, thenS_bk, thenS_ct, iteS_t, iteS_f, iteE_t, iteE_f, andE_t, andE_f, andT_t, andT_f, orT_t, orT_f, e_con, e_var, e_o1, e_o2, e_m2, e_on, e_ot, e_ok, e_and, e_ifx, e_sl, e_lc, e_disp, e_bor, e_oix, t_tst, t_tb, t_tru, t_not, t_and, t_or, t_yes, evA, evO, evW, evP, evG, evGs, getE, setE, forE, wipE, envS, outV, outI, in_e, in_p, in_s, in_w, kd_end', pe_, ee_, kt_, kf_, at_0, at_1, at_2, ownL, List.replicate, isB, sizeLine, cont_nx, cont_ct, -in_ss, -mod_ii, -rng1_i, -rng2_i, draw_eq, thenS_draw]
    refine wp_draw (by omega) (by omega) (by omega) fun a h6 h7 => ?_
    refine wp_draw (by omega) (by omega) (by omega) fun b h8 h9 => ?_
    refine wp_draw (by omega) (by omega) (by omega) fun c ha hb => ?_
    try simp -implicitDefEqProofs [s_seq, s_nx, s_brk, s_cnt, s_ret, s_retN, s_iff, s_for, s_asg, s_par2, s_par3, s_drop, s_newL, s_newD, s_app, s_ext, s_frz, s_fgt, thenS_nx, thenS_rt, thenS_bk, thenS_ct, iteS_t, iteS_f, iteE_t, iteE_f, andE_t, andE_f, andT_t, andT_f, orT_t, orT_f, e_con, e_var, e_o1, e_o2, e_m2, e_on, e_ot, e_ok, e_and, e_ifx, e_sl, e_lc, e_disp, e_bor, e_oix, t_tst, t_tb, t_tru, t_not, t_and, t_or, t_yes, evA, evO, evW, evP, evG, evGs, getE, setE, forE, wipE, envS, outV, outI, in_e, in_p, in_s, in_w, kd_end', pe_, ee_, kt_, kf_, at_0, at_1, at_2, ownL, List.replicate, isB, sizeLine, cont_nx, cont_ct, -in_ss, -mod_ii, -rng1_i, -rng2_i, draw_eq, thenS_draw]
    refine wp_draw (by omega) (by omega) (by omega) fun e hc hd => ?_
    have s1 : smallI (1 + a) = true := by unfold smallI; exact decide_eq_true (by omega)
    have s2 : smallI (1 + b) = true := by unfold smallI; exact decide_eq_true (by omega)
    have md : ∀ X : Int, modF (.int X) (.int (2 + c)) = some (.int (X % (2 + c))) := fun X => by
      rw [mod_ii, decide_eq_true (by omega)]
      rfl
    simp -implicitDefEqProofs [s_seq, s_nx, s_brk, s_cnt, s_ret, s_retN, s_iff, s_for, s_asg, s_par2, s_par3, s_drop, s_newL, s_newD, s_app, s_ext, s_frz, s_fgt, thenS_nx, thenS_rt, thenS_bk, thenS_ct, iteS_t, iteS_f, iteE_t, iteE_f, andE_t, andE_f, andT_t, andT_f, orT_t, orT_f, e_con, e_var, e_o1, e_o2, e_m2, e_on, e_ot, e_ok, e_and, e_ifx, e_sl, e_lc, e_disp, e_bor, e_oix, t_tst, t_tb, t_tru, t_not, t_and, t_or, t_yes, evA, evO, evW, evP, evG, evGs, getE, setE, forE, wipE, envS, outV, outI, in_e, in_p, in_s, in_w, kd_end', pe_, ee_, kt_, kf_, at_0, at_1, at_2, ownL, List.replicate, isB, sizeLine, cont_nx, cont_ct, -in_ss, -mod_ii, -rng1_i, -rng2_i, rm]
    rw [rints_map, lcB_map (f := fun i : Nat => .lst ((List.range w).map fun j : Nat => .str (sgnS (decide (((i : Int) * (1 + a) + j * (1 + b)) % (2 + c) < 1 + e))))) (by simp; omega) ?_]
    · have := fun env => fin_cloth (m := m) (w := w) (env := env) (fun i j => decide (((i : Int) * (1 + a) + j * (1 + b)) % (2 + c) < 1 + e)) (by omega) (by omega)
      unfold grid at this
      simp -implicitDefEqProofs [s_seq, s_nx, s_brk, s_cnt, s_ret, s_retN, s_iff, s_for, s_asg, s_par2, s_par3, s_drop, s_newL, s_newD, s_app, s_ext, s_frz, s_fgt, thenS_nx, thenS_rt, thenS_bk, thenS_ct, iteS_t, iteS_f, iteE_t, iteE_f, andE_t, andE_f, andT_t, andT_f, orT_t, orT_f, e_con, e_var, e_o1, e_o2, e_m2, e_on, e_ot, e_ok, e_and, e_ifx, e_sl, e_lc, e_disp, e_bor, e_oix, t_tst, t_tb, t_tru, t_not, t_and, t_or, t_yes, evA, evO, evW, evP, evG, evGs, getE, setE, forE, wipE, envS, outV, outI, in_e, in_p, in_s, in_w, kd_end', pe_, ee_, kt_, kf_, at_0, at_1, at_2, ownL, List.replicate, isB, sizeLine, cont_nx, cont_ct, -in_ss, -mod_ii, -rng1_i, -rng2_i]
      rw [this _ fun d => by simp -implicitDefEqProofs [s_seq, s_nx, s_brk, s_cnt, s_ret, s_retN, s_iff, s_for, s_asg, s_par2, s_par3, s_drop, s_newL, s_newD, s_app, s_ext, s_frz, s_fgt, thenS_nx, thenS_rt, thenS_bk, thenS_ct, iteS_t, iteS_f, iteE_t, iteE_f, andE_t, andE_f, andT_t, andT_f, orT_t, orT_f, e_con, e_var, e_o1, e_o2, e_m2, e_on, e_ot, e_ok, e_and, e_ifx, e_sl, e_lc, e_disp, e_bor, e_oix, t_tst, t_tb, t_tru, t_not, t_and, t_or, t_yes, evA, evO, evW, evP, evG, evGs, getE, setE, forE, wipE, envS, outV, outI, in_e, in_p, in_s, in_w, kd_end', pe_, ee_, kt_, kf_, at_0, at_1, at_2, ownL, List.replicate, isB, sizeLine, cont_nx, cont_ct, -in_ss, -mod_ii, -rng1_i, -rng2_i, stepL, slotsG]]
      simp -implicitDefEqProofs [s_seq, s_nx, s_brk, s_cnt, s_ret, s_retN, s_iff, s_for, s_asg, s_par2, s_par3, s_drop, s_newL, s_newD, s_app, s_ext, s_frz, s_fgt, thenS_nx, thenS_rt, thenS_bk, thenS_ct, iteS_t, iteS_f, iteE_t, iteE_f, andE_t, andE_f, andT_t, andT_f, orT_t, orT_f, e_con, e_var, e_o1, e_o2, e_m2, e_on, e_ot, e_ok, e_and, e_ifx, e_sl, e_lc, e_disp, e_bor, e_oix, t_tst, t_tb, t_tru, t_not, t_and, t_or, t_yes, evA, evO, evW, evP, evG, evGs, getE, setE, forE, wipE, envS, outV, outI, in_e, in_p, in_s, in_w, kd_end', pe_, ee_, kt_, kf_, at_0, at_1, at_2, ownL, List.replicate, isB, sizeLine, cont_nx, cont_ct, -in_ss, -mod_ii, -rng1_i, -rng2_i]
      exact wp_ret (fin _ m w _ hm1 hm hw1 hw (by omega))
    · intro i hi
      simp -implicitDefEqProofs [s_seq, s_nx, s_brk, s_cnt, s_ret, s_retN, s_iff, s_for, s_asg, s_par2, s_par3, s_drop, s_newL, s_newD, s_app, s_ext, s_frz, s_fgt, thenS_nx, thenS_rt, thenS_bk, thenS_ct, iteS_t, iteS_f, iteE_t, iteE_f, andE_t, andE_f, andT_t, andT_f, orT_t, orT_f, e_con, e_var, e_o1, e_o2, e_m2, e_on, e_ot, e_ok, e_and, e_ifx, e_sl, e_lc, e_disp, e_bor, e_oix, t_tst, t_tb, t_tru, t_not, t_and, t_or, t_yes, evA, evO, evW, evP, evG, evGs, getE, setE, forE, wipE, envS, outV, outI, in_e, in_p, in_s, in_w, kd_end', pe_, ee_, kt_, kf_, at_0, at_1, at_2, ownL, List.replicate, isB, sizeLine, cont_nx, cont_ct, -in_ss, -mod_ii, -rng1_i, -rng2_i, stepL, slotsG, rw_]
      rw [rints_map, lcB_map (f := fun j : Nat => .str (sgnS (decide (((i : Int) * (1 + a) + j * (1 + b)) % (2 + c) < 1 + e)))) (by simp; omega) ?_]
      · simp -implicitDefEqProofs [s_seq, s_nx, s_brk, s_cnt, s_ret, s_retN, s_iff, s_for, s_asg, s_par2, s_par3, s_drop, s_newL, s_newD, s_app, s_ext, s_frz, s_fgt, thenS_nx, thenS_rt, thenS_bk, thenS_ct, iteS_t, iteS_f, iteE_t, iteE_f, andE_t, andE_f, andT_t, andT_f, orT_t, orT_f, e_con, e_var, e_o1, e_o2, e_m2, e_on, e_ot, e_ok, e_and, e_ifx, e_sl, e_lc, e_disp, e_bor, e_oix, t_tst, t_tb, t_tru, t_not, t_and, t_or, t_yes, evA, evO, evW, evP, evG, evGs, getE, setE, forE, wipE, envS, outV, outI, in_e, in_p, in_s, in_w, kd_end', pe_, ee_, kt_, kf_, at_0, at_1, at_2, ownL, List.replicate, isB, sizeLine, cont_nx, cont_ct, -in_ss, -mod_ii, -rng1_i, -rng2_i]
      · intro j hj
        have := ix_dx (decide (((i : Int) * (1 + a) + j * (1 + b)) % (2 + c) < 1 + e))
        simp only [decide_eq_true_eq] at this
        simp -implicitDefEqProofs [s_seq, s_nx, s_brk, s_cnt, s_ret, s_retN, s_iff, s_for, s_asg, s_par2, s_par3, s_drop, s_newL, s_newD, s_app, s_ext, s_frz, s_fgt, thenS_nx, thenS_rt, thenS_bk, thenS_ct, iteS_t, iteS_f, iteE_t, iteE_f, andE_t, andE_f, andT_t, andT_f, orT_t, orT_f, e_con, e_var, e_o1, e_o2, e_m2, e_on, e_ot, e_ok, e_and, e_ifx, e_sl, e_lc, e_disp, e_bor, e_oix, t_tst, t_tb, t_tru, t_not, t_and, t_or, t_yes, evA, evO, evW, evP, evG, evGs, getE, setE, forE, wipE, envS, outV, outI, in_e, in_p, in_s, in_w, kd_end', pe_, ee_, kt_, kf_, at_0, at_1, at_2, ownL, List.replicate, isB, sizeLine, cont_nx, cont_ct, -in_ss, -mod_ii, -rng1_i, -rng2_i, stepL, slotsG, s1, s2, md, this]
  · have hk2 : (k == 0) = false := beq_eq_false_iff_ne.mpr hk
    have pk := F_pick_eq (LL := [.int 2, .int 2, .int 3, .int 6]) (n := 4) rfl
    simp -implicitDefEqProofs [s_seq, s_nx, s_brk, s_cnt, s_ret, s_retN, s_iff, s_for, s_asg, s_par2, s_par3, s_drop, s_newL, s_newD, s_app, s_ext, s_frz, s_fgt, thenS_nx, thenS_rt, thenS_bk, thenS_ct, iteS_t, iteS_f, iteE_t, iteE_f, andE_t, andE_f, andT_t, andT_f, orT_t, orT_f, e_con, e_var, e_o1, e_o2, e_m2, e_on, e_ot, e_ok, e_and, e_ifx, e_sl, e_lc, e_disp, e_bor, e_oix, t_tst, t_tb, t_tru, t_not, t_and, t_or, t_yes, evA, evO, evW, evP, evG, evGs, getE, setE, forE, wipE, envS, outV, outI, in_e, in_p, in_s, in_w, kd_end', pe_, ee_, kt_, kf_, at_0, at_1, at_2, ownL, List.replicate, isB, sizeLine, cont_nx, cont_ct, -in_ss, -mod_ii, -rng1_i, -rng2_i, hk2, draw_eq, thenS_draw, pk]
    refine wp_draw (by omega) (by omega) (by omega) fun x h6 h7 => ?_
    obtain ⟨o, ho, o1, o2⟩ := at_often h6 h7
    simp -implicitDefEqProofs [s_seq, s_nx, s_brk, s_cnt, s_ret, s_retN, s_iff, s_for, s_asg, s_par2, s_par3, s_drop, s_newL, s_newD, s_app, s_ext, s_frz, s_fgt, thenS_nx, thenS_rt, thenS_bk, thenS_ct, iteS_t, iteS_f, iteE_t, iteE_f, andE_t, andE_f, andT_t, andT_f, orT_t, orT_f, e_con, e_var, e_o1, e_o2, e_m2, e_on, e_ot, e_ok, e_and, e_ifx, e_sl, e_lc, e_disp, e_bor, e_oix, t_tst, t_tb, t_tru, t_not, t_and, t_or, t_yes, evA, evO, evW, evP, evG, evGs, getE, setE, forE, wipE, envS, outV, outI, in_e, in_p, in_s, in_w, kd_end', pe_, ee_, kt_, kf_, at_0, at_1, at_2, ownL, List.replicate, isB, sizeLine, cont_nx, cont_ct, -in_ss, -mod_ii, -rng1_i, -rng2_i, ho]
    by_cases hk1 : k = 1
    · subst hk1
      simp -implicitDefEqProofs [s_seq, s_nx, s_brk, s_cnt, s_ret, s_retN, s_iff, s_for, s_asg, s_par2, s_par3, s_drop, s_newL, s_newD, s_app, s_ext, s_frz, s_fgt, thenS_nx, thenS_rt, thenS_bk, thenS_ct, iteS_t, iteS_f, iteE_t, iteE_f, andE_t, andE_f, andT_t, andT_f, orT_t, orT_f, e_con, e_var, e_o1, e_o2, e_m2, e_on, e_ot, e_ok, e_and, e_ifx, e_sl, e_lc, e_disp, e_bor, e_oix, t_tst, t_tb, t_tru, t_not, t_and, t_or, t_yes, evA, evO, evW, evP, evG, evGs, getE, setE, forE, wipE, envS, outV, outI, in_e, in_p, in_s, in_w, kd_end', pe_, ee_, kt_, kf_, at_0, at_1, at_2, ownL, List.replicate, isB, sizeLine, cont_nx, cont_ct, -in_ss, -mod_ii, -rng1_i, -rng2_i, draw_eq, thenS_draw]
      refine wp_drawN (by omega) (by omega) (by omega) fun a ha2 => ?_
      try simp -implicitDefEqProofs [s_seq, s_nx, s_brk, s_cnt, s_ret, s_retN, s_iff, s_for, s_asg, s_par2, s_par3, s_drop, s_newL, s_newD, s_app, s_ext, s_frz, s_fgt, thenS_nx, thenS_rt, thenS_bk, thenS_ct, iteS_t, iteS_f, iteE_t, iteE_f, andE_t, andE_f, andT_t, andT_f, orT_t, orT_f, e_con, e_var, e_o1, e_o2, e_m2, e_on, e_ot, e_ok, e_and, e_ifx, e_sl, e_lc, e_disp, e_bor, e_oix, t_tst, t_tb, t_tru, t_not, t_and, t_or, t_yes, evA, evO, evW, evP, evG, evGs, getE, setE, forE, wipE, envS, outV, outI, in_e, in_p, in_s, in_w, kd_end', pe_, ee_, kt_, kf_, at_0, at_1, at_2, ownL, List.replicate, isB, sizeLine, cont_nx, cont_ct, -in_ss, -mod_ii, -rng1_i, -rng2_i, draw_eq, thenS_draw]
      refine wp_drawN (by omega) (by omega) (by omega) fun b hb2 => ?_
      have ea : (1 : Int) + a = ((a + 1 : Nat) : Int) := by omega
      have eb : (1 : Int) + b = ((b + 1 : Nat) : Int) := by omega
      have hb0 : a + 1 ≤ 5 := by omega
      have hb5 : b + 1 ≤ 5 := by omega
      have hB0 : 1 ≤ a + 1 := by omega
      have hB1 : 1 ≤ b + 1 := by omega
      rw [ea, eb]
      generalize a + 1 = B0 at hb0 hB0 ⊢
      generalize b + 1 = B1 at hb5 hB1 ⊢
      simp -implicitDefEqProofs [s_seq, s_nx, s_brk, s_cnt, s_ret, s_retN, s_iff, s_for, s_asg, s_par2, s_par3, s_drop, s_newL, s_newD, s_app, s_ext, s_frz, s_fgt, thenS_nx, thenS_rt, thenS_bk, thenS_ct, iteS_t, iteS_f, iteE_t, iteE_f, andE_t, andE_f, andT_t, andT_f, orT_t, orT_f, e_con, e_var, e_o1, e_o2, e_m2, e_on, e_ot, e_ok, e_and, e_ifx, e_sl, e_lc, e_disp, e_bor, e_oix, t_tst, t_tb, t_tru, t_not, t_and, t_or, t_yes, evA, evO, evW, evP, evG, evGs, getE, setE, forE, wipE, envS, outV, outI, in_e, in_p, in_s, in_w, kd_end', pe_, ee_, kt_, kf_, at_0, at_1, at_2, ownL, List.replicate, isB, sizeLine, cont_nx, cont_ct, -in_ss, -mod_ii, -rng1_i, -rng2_i, rng_n (show B0 ≤ 1000 by omega)]
      simp only [thenS_bind, T.bind_assoc]
      refine (T.wp_bind _ _ _).mpr ?_
      rw [rints_map]
      refine lcB_wp (isRow B1) 10 (by simp; omega) (by simp; omega) (fun z hz mm hmm => ?_) fun n2 ys q1 q2 q3 => ?_
      · simp -implicitDefEqProofs [s_seq, s_nx, s_brk, s_cnt, s_ret, s_retN, s_iff, s_for, s_asg, s_par2, s_par3, s_drop, s_newL, s_newD, s_app, s_ext, s_frz, s_fgt, thenS_nx, thenS_rt, thenS_bk, thenS_ct, iteS_t, iteS_f, iteE_t, iteE_f, andE_t, andE_f, andT_t, andT_f, orT_t, orT_f, e_con, e_var, e_o1, e_o2, e_m2, e_on, e_ot, e_ok, e_and, e_ifx, e_sl, e_lc, e_disp, e_bor, e_oix, t_tst, t_tb, t_tru, t_not, t_and, t_or, t_yes, evA, evO, evW, evP, evG, evGs, getE, setE, forE, wipE, envS, outV, outI, in_e, in_p, in_s, in_w, kd_end', pe_, ee_, kt_, kf_, at_0, at_1, at_2, ownL, List.replicate, isB, sizeLine, cont_nx, cont_ct, -in_ss, -mod_ii, -rng1_i, -rng2_i, stepL, slotsG, rng_n (show B1 ≤ 1000 by omega)]
        refine (T.wp_bind _ _ _).mpr ?_
        rw [rints_map]
        refine lcB_wp isSg 2 (by simp; omega) (by simp; omega) (fun z hz mm hmm => ?_) fun n3 ys q1 q2 q3 => ?_
        · simp -implicitDefEqProofs [s_seq, s_nx, s_brk, s_cnt, s_ret, s_retN, s_iff, s_for, s_asg, s_par2, s_par3, s_drop, s_newL, s_newD, s_app, s_ext, s_frz, s_fgt, thenS_nx, thenS_rt, thenS_bk, thenS_ct, iteS_t, iteS_f, iteE_t, iteE_f, andE_t, andE_f, andT_t, andT_f, orT_t, orT_f, e_con, e_var, e_o1, e_o2, e_m2, e_on, e_ot, e_ok, e_and, e_ifx, e_sl, e_lc, e_disp, e_bor, e_oix, t_tst, t_tb, t_tru, t_not, t_and, t_or, t_yes, evA, evO, evW, evP, evG, evGs, getE, setE, forE, wipE, envS, outV, outI, in_e, in_p, in_s, in_w, kd_end', pe_, ee_, kt_, kf_, at_0, at_1, at_2, ownL, List.replicate, isB, sizeLine, cont_nx, cont_ct, -in_ss, -mod_ii, -rng1_i, -rng2_i, stepL, slotsG, draw_eq]
          refine wp_draw (by omega) (by omega) (by omega) fun v u1 u2 => ?_
          have xd := ix_xd (decide (0 < v))
          simp only [decide_eq_true_eq] at xd
          simp -implicitDefEqProofs [s_seq, s_nx, s_brk, s_cnt, s_ret, s_retN, s_iff, s_for, s_asg, s_par2, s_par3, s_drop, s_newL, s_newD, s_app, s_ext, s_frz, s_fgt, thenS_nx, thenS_rt, thenS_bk, thenS_ct, iteS_t, iteS_f, iteE_t, iteE_f, andE_t, andE_f, andT_t, andT_f, orT_t, orT_f, e_con, e_var, e_o1, e_o2, e_m2, e_on, e_ot, e_ok, e_and, e_ifx, e_sl, e_lc, e_disp, e_bor, e_oix, t_tst, t_tb, t_tru, t_not, t_and, t_or, t_yes, evA, evO, evW, evP, evG, evGs, getE, setE, forE, wipE, envS, outV, outI, in_e, in_p, in_s, in_w, kd_end', pe_, ee_, kt_, kf_, at_0, at_1, at_2, ownL, List.replicate, isB, sizeLine, cont_nx, cont_ct, -in_ss, -mod_ii, -rng1_i, -rng2_i, xd]
          exact wp_ret ⟨_, rfl, isSg_mk _, by omega⟩
        · have hg := choose_sg q2 q3
          rw [List.length_range] at q1
          exact wp_ret ⟨_, rfl, hg, by omega⟩
      · have hh := choose_row q2 q3
        have ⟨G, hG⟩ := hh
        rw [List.length_range] at q1
        subst hG
        simp -implicitDefEqProofs [s_seq, s_nx, s_brk, s_cnt, s_ret, s_retN, s_iff, s_for, s_asg, s_par2, s_par3, s_drop, s_newL, s_newD, s_app, s_ext, s_frz, s_fgt, thenS_nx, thenS_rt, thenS_bk, thenS_ct, iteS_t, iteS_f, iteE_t, iteE_f, andE_t, andE_f, andT_t, andT_f, orT_t, orT_f, e_con, e_var, e_o1, e_o2, e_m2, e_on, e_ot, e_ok, e_and, e_ifx, e_sl, e_lc, e_disp, e_bor, e_oix, t_tst, t_tb, t_tru, t_not, t_and, t_or, t_yes, evA, evO, evW, evP, evG, evGs, getE, setE, forE, wipE, envS, outV, outI, in_e, in_p, in_s, in_w, kd_end', pe_, ee_, kt_, kf_, at_0, at_1, at_2, ownL, List.replicate, isB, sizeLine, cont_nx, cont_ct, -in_ss, -mod_ii, -rng1_i, -rng2_i, rm]
        rw [rints_map, lcB_map (f := fun i : Nat => .lst ((List.range w).map fun j : Nat => .str (sgnS (G (i % B0) (j % B1))))) (by simp; omega) ?_]
        · have := fun env => fin_cloth (m := m) (w := w) (env := env) (fun i j => G (i % B0) (j % B1)) (by omega) (by omega)
          unfold grid at this
          simp -implicitDefEqProofs [s_seq, s_nx, s_brk, s_cnt, s_ret, s_retN, s_iff, s_for, s_asg, s_par2, s_par3, s_drop, s_newL, s_newD, s_app, s_ext, s_frz, s_fgt, thenS_nx, thenS_rt, thenS_bk, thenS_ct, iteS_t, iteS_f, iteE_t, iteE_f, andE_t, andE_f, andT_t, andT_f, orT_t, orT_f, e_con, e_var, e_o1, e_o2, e_m2, e_on, e_ot, e_ok, e_and, e_ifx, e_sl, e_lc, e_disp, e_bor, e_oix, t_tst, t_tb, t_tru, t_not, t_and, t_or, t_yes, evA, evO, evW, evP, evG, evGs, getE, setE, forE, wipE, envS, outV, outI, in_e, in_p, in_s, in_w, kd_end', pe_, ee_, kt_, kf_, at_0, at_1, at_2, ownL, List.replicate, isB, sizeLine, cont_nx, cont_ct, -in_ss, -mod_ii, -rng1_i, -rng2_i]
          rw [this _ fun d => by simp -implicitDefEqProofs [s_seq, s_nx, s_brk, s_cnt, s_ret, s_retN, s_iff, s_for, s_asg, s_par2, s_par3, s_drop, s_newL, s_newD, s_app, s_ext, s_frz, s_fgt, thenS_nx, thenS_rt, thenS_bk, thenS_ct, iteS_t, iteS_f, iteE_t, iteE_f, andE_t, andE_f, andT_t, andT_f, orT_t, orT_f, e_con, e_var, e_o1, e_o2, e_m2, e_on, e_ot, e_ok, e_and, e_ifx, e_sl, e_lc, e_disp, e_bor, e_oix, t_tst, t_tb, t_tru, t_not, t_and, t_or, t_yes, evA, evO, evW, evP, evG, evGs, getE, setE, forE, wipE, envS, outV, outI, in_e, in_p, in_s, in_w, kd_end', pe_, ee_, kt_, kf_, at_0, at_1, at_2, ownL, List.replicate, isB, sizeLine, cont_nx, cont_ct, -in_ss, -mod_ii, -rng1_i, -rng2_i, stepL, slotsG]]
          simp -implicitDefEqProofs [s_seq, s_nx, s_brk, s_cnt, s_ret, s_retN, s_iff, s_for, s_asg, s_par2, s_par3, s_drop, s_newL, s_newD, s_app, s_ext, s_frz, s_fgt, thenS_nx, thenS_rt, thenS_bk, thenS_ct, iteS_t, iteS_f, iteE_t, iteE_f, andE_t, andE_f, andT_t, andT_f, orT_t, orT_f, e_con, e_var, e_o1, e_o2, e_m2, e_on, e_ot, e_ok, e_and, e_ifx, e_sl, e_lc, e_disp, e_bor, e_oix, t_tst, t_tb, t_tru, t_not, t_and, t_or, t_yes, evA, evO, evW, evP, evG, evGs, getE, setE, forE, wipE, envS, outV, outI, in_e, in_p, in_s, in_w, kd_end', pe_, ee_, kt_, kf_, at_0, at_1, at_2, ownL, List.replicate, isB, sizeLine, cont_nx, cont_ct, -in_ss, -mod_ii, -rng1_i, -rng2_i]
          exact wp_ret (fin _ m w _ hm1 hm hw1 hw (by omega))
        · intro i hi
          simp -implicitDefEqProofs [s_seq, s_nx, s_brk, s_cnt, s_ret, s_retN, s_iff, s_for, s_asg, s_par2, s_par3, s_drop, s_newL, s_newD, s_app, s_ext, s_frz, s_fgt, thenS_nx, thenS_rt, thenS_bk, thenS_ct, iteS_t, iteS_f, iteE_t, iteE_f, andE_t, andE_f, andT_t, andT_f, orT_t, orT_f, e_con, e_var, e_o1, e_o2, e_m2, e_on, e_ot, e_ok, e_and, e_ifx, e_sl, e_lc, e_disp, e_bor, e_oix, t_tst, t_tb, t_tru, t_not, t_and, t_or, t_yes, evA, evO, evW, evP, evG, evGs, getE, setE, forE, wipE, envS, outV, outI, in_e, in_p, in_s, in_w, kd_end', pe_, ee_, kt_, kf_, at_0, at_1, at_2, ownL, List.replicate, isB, sizeLine, cont_nx, cont_ct, -in_ss, -mod_ii, -rng1_i, -rng2_i, stepL, slotsG, rw_]
          rw [rints_map, lcB_map (f := fun j : Nat => .str (sgnS (G (i % B0) (j % B1)))) (by simp; omega) ?_]
          · simp -implicitDefEqProofs [s_seq, s_nx, s_brk, s_cnt, s_ret, s_retN, s_iff, s_for, s_asg, s_par2, s_par3, s_drop, s_newL, s_newD, s_app, s_ext, s_frz, s_fgt, thenS_nx, thenS_rt, thenS_bk, thenS_ct, iteS_t, iteS_f, iteE_t, iteE_f, andE_t, andE_f, andT_t, andT_f, orT_t, orT_f, e_con, e_var, e_o1, e_o2, e_m2, e_on, e_ot, e_ok, e_and, e_ifx, e_sl, e_lc, e_disp, e_bor, e_oix, t_tst, t_tb, t_tru, t_not, t_and, t_or, t_yes, evA, evO, evW, evP, evG, evGs, getE, setE, forE, wipE, envS, outV, outI, in_e, in_p, in_s, in_w, kd_end', pe_, ee_, kt_, kf_, at_0, at_1, at_2, ownL, List.replicate, isB, sizeLine, cont_nx, cont_ct, -in_ss, -mod_ii, -rng1_i, -rng2_i]
          · intro j hj
            have x1 := at_modN (g := fun i => Dv.lst ((List.range B1).map fun j => .str (sgnS (G i j)))) i hB0
            have x2 := at_modN (g := fun j => Dv.str (sgnS (G (i % B0) j))) j hB1
            simp -implicitDefEqProofs [s_seq, s_nx, s_brk, s_cnt, s_ret, s_retN, s_iff, s_for, s_asg, s_par2, s_par3, s_drop, s_newL, s_newD, s_app, s_ext, s_frz, s_fgt, thenS_nx, thenS_rt, thenS_bk, thenS_ct, iteS_t, iteS_f, iteE_t, iteE_f, andE_t, andE_f, andT_t, andT_f, orT_t, orT_f, e_con, e_var, e_o1, e_o2, e_m2, e_on, e_ot, e_ok, e_and, e_ifx, e_sl, e_lc, e_disp, e_bor, e_oix, t_tst, t_tb, t_tru, t_not, t_and, t_or, t_yes, evA, evO, evW, evP, evG, evGs, getE, setE, forE, wipE, envS, outV, outI, in_e, in_p, in_s, in_w, kd_end', pe_, ee_, kt_, kf_, at_0, at_1, at_2, ownL, List.replicate, isB, sizeLine, cont_nx, cont_ct, -in_ss, -mod_ii, -rng1_i, -rng2_i, stepL, slotsG, mod_n hB0, mod_n hB1, x1, x2]
    · have hk3 : (k == 1) = false := beq_eq_false_iff_ne.mpr hk1
      simp -implicitDefEqProofs [s_seq, s_nx, s_brk, s_cnt, s_ret, s_retN, s_iff, s_for, s_asg, s_par2, s_par3, s_drop, s_newL, s_newD, s_app, s_ext, s_frz, s_fgt, thenS_nx, thenS_rt, thenS_bk, thenS_ct, iteS_t, iteS_f, iteE_t, iteE_f, andE_t, andE_f, andT_t, andT_f, orT_t, orT_f, e_con, e_var, e_o1, e_o2, e_m2, e_on, e_ot, e_ok, e_and, e_ifx, e_sl, e_lc, e_disp, e_bor, e_oix, t_tst, t_tb, t_tru, t_not, t_and, t_or, t_yes, evA, evO, evW, evP, evG, evGs, getE, setE, forE, wipE, envS, outV, outI, in_e, in_p, in_s, in_w, kd_end', pe_, ee_, kt_, kf_, at_0, at_1, at_2, ownL, List.replicate, isB, sizeLine, cont_nx, cont_ct, -in_ss, -mod_ii, -rng1_i, -rng2_i, hk3]
      have hB0 := hm1
      have hB1 := hw1
      simp -implicitDefEqProofs [s_seq, s_nx, s_brk, s_cnt, s_ret, s_retN, s_iff, s_for, s_asg, s_par2, s_par3, s_drop, s_newL, s_newD, s_app, s_ext, s_frz, s_fgt, thenS_nx, thenS_rt, thenS_bk, thenS_ct, iteS_t, iteS_f, iteE_t, iteE_f, andE_t, andE_f, andT_t, andT_f, orT_t, orT_f, e_con, e_var, e_o1, e_o2, e_m2, e_on, e_ot, e_ok, e_and, e_ifx, e_sl, e_lc, e_disp, e_bor, e_oix, t_tst, t_tb, t_tru, t_not, t_and, t_or, t_yes, evA, evO, evW, evP, evG, evGs, getE, setE, forE, wipE, envS, outV, outI, in_e, in_p, in_s, in_w, kd_end', pe_, ee_, kt_, kf_, at_0, at_1, at_2, ownL, List.replicate, isB, sizeLine, cont_nx, cont_ct, -in_ss, -mod_ii, -rng1_i, -rng2_i, rng_n (show m ≤ 1000 by omega)]
      simp only [thenS_bind, T.bind_assoc]
      refine (T.wp_bind _ _ _).mpr ?_
      rw [rints_map]
      refine lcB_wp (isRow w) 10 (by simp; omega) (by simp; omega) (fun z hz mm hmm => ?_) fun n2 ys q1 q2 q3 => ?_
      · simp -implicitDefEqProofs [s_seq, s_nx, s_brk, s_cnt, s_ret, s_retN, s_iff, s_for, s_asg, s_par2, s_par3, s_drop, s_newL, s_newD, s_app, s_ext, s_frz, s_fgt, thenS_nx, thenS_rt, thenS_bk, thenS_ct, iteS_t, iteS_f, iteE_t, iteE_f, andE_t, andE_f, andT_t, andT_f, orT_t, orT_f, e_con, e_var, e_o1, e_o2, e_m2, e_on, e_ot, e_ok, e_and, e_ifx, e_sl, e_lc, e_disp, e_bor, e_oix, t_tst, t_tb, t_tru, t_not, t_and, t_or, t_yes, evA, evO, evW, evP, evG, evGs, getE, setE, forE, wipE, envS, outV, outI, in_e, in_p, in_s, in_w, kd_end', pe_, ee_, kt_, kf_, at_0, at_1, at_2, ownL, List.replicate, isB, sizeLine, cont_nx, cont_ct, -in_ss, -mod_ii, -rng1_i, -rng2_i, stepL, slotsG, rng_n (show w ≤ 1000 by omega)]
        refine (T.wp_bind _ _ _).mpr ?_
        rw [rints_map]
        refine lcB_wp isSg 2 (by simp; omega) (by simp; omega) (fun z hz mm hmm => ?_) fun n3 ys q1 q2 q3 => ?_
        · simp -implicitDefEqProofs [s_seq, s_nx, s_brk, s_cnt, s_ret, s_retN, s_iff, s_for, s_asg, s_par2, s_par3, s_drop, s_newL, s_newD, s_app, s_ext, s_frz, s_fgt, thenS_nx, thenS_rt, thenS_bk, thenS_ct, iteS_t, iteS_f, iteE_t, iteE_f, andE_t, andE_f, andT_t, andT_f, orT_t, orT_f, e_con, e_var, e_o1, e_o2, e_m2, e_on, e_ot, e_ok, e_and, e_ifx, e_sl, e_lc, e_disp, e_bor, e_oix, t_tst, t_tb, t_tru, t_not, t_and, t_or, t_yes, evA, evO, evW, evP, evG, evGs, getE, setE, forE, wipE, envS, outV, outI, in_e, in_p, in_s, in_w, kd_end', pe_, ee_, kt_, kf_, at_0, at_1, at_2, ownL, List.replicate, isB, sizeLine, cont_nx, cont_ct, -in_ss, -mod_ii, -rng1_i, -rng2_i, stepL, slotsG, draw_eq]
          refine wp_draw (by omega) (by omega) (by omega) fun v u1 u2 => ?_
          have xd := ix_xd (decide (0 < v))
          simp only [decide_eq_true_eq] at xd
          simp -implicitDefEqProofs [s_seq, s_nx, s_brk, s_cnt, s_ret, s_retN, s_iff, s_for, s_asg, s_par2, s_par3, s_drop, s_newL, s_newD, s_app, s_ext, s_frz, s_fgt, thenS_nx, thenS_rt, thenS_bk, thenS_ct, iteS_t, iteS_f, iteE_t, iteE_f, andE_t, andE_f, andT_t, andT_f, orT_t, orT_f, e_con, e_var, e_o1, e_o2, e_m2, e_on, e_ot, e_ok, e_and, e_ifx, e_sl, e_lc, e_disp, e_bor, e_oix, t_tst, t_tb, t_tru, t_not, t_and, t_or, t_yes, evA, evO, evW, evP, evG, evGs, getE, setE, forE, wipE, envS, outV, outI, in_e, in_p, in_s, in_w, kd_end', pe_, ee_, kt_, kf_, at_0, at_1, at_2, ownL, List.replicate, isB, sizeLine, cont_nx, cont_ct, -in_ss, -mod_ii, -rng1_i, -rng2_i, xd]
          exact wp_ret ⟨_, rfl, isSg_mk _, by omega⟩
        · have hg := choose_sg q2 q3
          rw [List.length_range] at q1
          exact wp_ret ⟨_, rfl, hg, by omega⟩
      · have hh := choose_row q2 q3
        have ⟨G, hG⟩ := hh
        rw [List.length_range] at q1
        subst hG
        simp -implicitDefEqProofs [s_seq, s_nx, s_brk, s_cnt, s_ret, s_retN, s_iff, s_for, s_asg, s_par2, s_par3, s_drop, s_newL, s_newD, s_app, s_ext, s_frz, s_fgt, thenS_nx, thenS_rt, thenS_bk, thenS_ct, iteS_t, iteS_f, iteE_t, iteE_f, andE_t, andE_f, andT_t, andT_f, orT_t, orT_f, e_con, e_var, e_o1, e_o2, e_m2, e_on, e_ot, e_ok, e_and, e_ifx, e_sl, e_lc, e_disp, e_bor, e_oix, t_tst, t_tb, t_tru, t_not, t_and, t_or, t_yes, evA, evO, evW, evP, evG, evGs, getE, setE, forE, wipE, envS, outV, outI, in_e, in_p, in_s, in_w, kd_end', pe_, ee_, kt_, kf_, at_0, at_1, at_2, ownL, List.replicate, isB, sizeLine, cont_nx, cont_ct, -in_ss, -mod_ii, -rng1_i, -rng2_i, rm]
        rw [rints_map, lcB_map (f := fun i : Nat => .lst ((List.range w).map fun j : Nat => .str (sgnS (G (i % m) (j % w))))) (by simp; omega) ?_]
        · have := fun env => fin_cloth (m := m) (w := w) (env := env) (fun i j => G (i % m) (j % w)) (by omega) (by omega)
          unfold grid at this
          simp -implicitDefEqProofs [s_seq, s_nx, s_brk, s_cnt, s_ret, s_retN, s_iff, s_for, s_asg, s_par2, s_par3, s_drop, s_newL, s_newD, s_app, s_ext, s_frz, s_fgt, thenS_nx, thenS_rt, thenS_bk, thenS_ct, iteS_t, iteS_f, iteE_t, iteE_f, andE_t, andE_f, andT_t, andT_f, orT_t, orT_f, e_con, e_var, e_o1, e_o2, e_m2, e_on, e_ot, e_ok, e_and, e_ifx, e_sl, e_lc, e_disp, e_bor, e_oix, t_tst, t_tb, t_tru, t_not, t_and, t_or, t_yes, evA, evO, evW, evP, evG, evGs, getE, setE, forE, wipE, envS, outV, outI, in_e, in_p, in_s, in_w, kd_end', pe_, ee_, kt_, kf_, at_0, at_1, at_2, ownL, List.replicate, isB, sizeLine, cont_nx, cont_ct, -in_ss, -mod_ii, -rng1_i, -rng2_i]
          rw [this _ fun d => by simp -implicitDefEqProofs [s_seq, s_nx, s_brk, s_cnt, s_ret, s_retN, s_iff, s_for, s_asg, s_par2, s_par3, s_drop, s_newL, s_newD, s_app, s_ext, s_frz, s_fgt, thenS_nx, thenS_rt, thenS_bk, thenS_ct, iteS_t, iteS_f, iteE_t, iteE_f, andE_t, andE_f, andT_t, andT_f, orT_t, orT_f, e_con, e_var, e_o1, e_o2, e_m2, e_on, e_ot, e_ok, e_and, e_ifx, e_sl, e_lc, e_disp, e_bor, e_oix, t_tst, t_tb, t_tru, t_not, t_and, t_or, t_yes, evA, evO, evW, evP, evG, evGs, getE, setE, forE, wipE, envS, outV, outI, in_e, in_p, in_s, in_w, kd_end', pe_, ee_, kt_, kf_, at_0, at_1, at_2, ownL, List.replicate, isB, sizeLine, cont_nx, cont_ct, -in_ss, -mod_ii, -rng1_i, -rng2_i, stepL, slotsG]]
          simp -implicitDefEqProofs [s_seq, s_nx, s_brk, s_cnt, s_ret, s_retN, s_iff, s_for, s_asg, s_par2, s_par3, s_drop, s_newL, s_newD, s_app, s_ext, s_frz, s_fgt, thenS_nx, thenS_rt, thenS_bk, thenS_ct, iteS_t, iteS_f, iteE_t, iteE_f, andE_t, andE_f, andT_t, andT_f, orT_t, orT_f, e_con, e_var, e_o1, e_o2, e_m2, e_on, e_ot, e_ok, e_and, e_ifx, e_sl, e_lc, e_disp, e_bor, e_oix, t_tst, t_tb, t_tru, t_not, t_and, t_or, t_yes, evA, evO, evW, evP, evG, evGs, getE, setE, forE, wipE, envS, outV, outI, in_e, in_p, in_s, in_w, kd_end', pe_, ee_, kt_, kf_, at_0, at_1, at_2, ownL, List.replicate, isB, sizeLine, cont_nx, cont_ct, -in_ss, -mod_ii, -rng1_i, -rng2_i]
          exact wp_ret (fin _ m w _ hm1 hm hw1 hw (by omega))
        · intro i hi
          simp -implicitDefEqProofs [s_seq, s_nx, s_brk, s_cnt, s_ret, s_retN, s_iff, s_for, s_asg, s_par2, s_par3, s_drop, s_newL, s_newD, s_app, s_ext, s_frz, s_fgt, thenS_nx, thenS_rt, thenS_bk, thenS_ct, iteS_t, iteS_f, iteE_t, iteE_f, andE_t, andE_f, andT_t, andT_f, orT_t, orT_f, e_con, e_var, e_o1, e_o2, e_m2, e_on, e_ot, e_ok, e_and, e_ifx, e_sl, e_lc, e_disp, e_bor, e_oix, t_tst, t_tb, t_tru, t_not, t_and, t_or, t_yes, evA, evO, evW, evP, evG, evGs, getE, setE, forE, wipE, envS, outV, outI, in_e, in_p, in_s, in_w, kd_end', pe_, ee_, kt_, kf_, at_0, at_1, at_2, ownL, List.replicate, isB, sizeLine, cont_nx, cont_ct, -in_ss, -mod_ii, -rng1_i, -rng2_i, stepL, slotsG, rw_]
          rw [rints_map, lcB_map (f := fun j : Nat => .str (sgnS (G (i % m) (j % w)))) (by simp; omega) ?_]
          · simp -implicitDefEqProofs [s_seq, s_nx, s_brk, s_cnt, s_ret, s_retN, s_iff, s_for, s_asg, s_par2, s_par3, s_drop, s_newL, s_newD, s_app, s_ext, s_frz, s_fgt, thenS_nx, thenS_rt, thenS_bk, thenS_ct, iteS_t, iteS_f, iteE_t, iteE_f, andE_t, andE_f, andT_t, andT_f, orT_t, orT_f, e_con, e_var, e_o1, e_o2, e_m2, e_on, e_ot, e_ok, e_and, e_ifx, e_sl, e_lc, e_disp, e_bor, e_oix, t_tst, t_tb, t_tru, t_not, t_and, t_or, t_yes, evA, evO, evW, evP, evG, evGs, getE, setE, forE, wipE, envS, outV, outI, in_e, in_p, in_s, in_w, kd_end', pe_, ee_, kt_, kf_, at_0, at_1, at_2, ownL, List.replicate, isB, sizeLine, cont_nx, cont_ct, -in_ss, -mod_ii, -rng1_i, -rng2_i]
          · intro j hj
            have x1 := at_modN (g := fun i => Dv.lst ((List.range w).map fun j => .str (sgnS (G i j)))) i hB0
            have x2 := at_modN (g := fun j => Dv.str (sgnS (G (i % m) j))) j hB1
            simp -implicitDefEqProofs [s_seq, s_nx, s_brk, s_cnt, s_ret, s_retN, s_iff, s_for, s_asg, s_par2, s_par3, s_drop, s_newL, s_newD, s_app, s_ext, s_frz, s_fgt, thenS_nx, thenS_rt, thenS_bk, thenS_ct, iteS_t, iteS_f, iteE_t, iteE_f, andE_t, andE_f, andT_t, andT_f, orT_t, orT_f, e_con, e_var, e_o1, e_o2, e_m2, e_on, e_ot, e_ok, e_and, e_ifx, e_sl, e_lc, e_disp, e_bor, e_oix, t_tst, t_tb, t_tru, t_not, t_and, t_or, t_yes, evA, evO, evW, evP, evG, evGs, getE, setE, forE, wipE, envS, outV, outI, in_e, in_p, in_s, in_w, kd_end', pe_, ee_, kt_, kf_, at_0, at_1, at_2, ownL, List.replicate, isB, sizeLine, cont_nx, cont_ct, -in_ss, -mod_ii, -rng1_i, -rng2_i, stepL, slotsG, mod_n hB0, mod_n hB1, x1, x2]
end K60

set_option Elab.async false
set_option linter.all false
set_option maxRecDepth 100000
set_option maxHeartbeats 2000000
namespace K60
open PySem PySem.Spec L2 DL MV
theorem forB_wp {g : Tg} {b : Sm} {fg : List Nat} {items : List Dv} {env : DL.Env} {n : Nat} {R : Nat → Out → Prop} {X : Nat → Dv → Prop} (J : Nat → Nat → Prop) (h0 : J items.length n)
    (hs : ∀ d ∈ items, ∀ k n, J (k + 1) n → (stepB g b d env).wp n (fun n o => match o with
      | .nx e => J k n ∧ forE e fg = env
      | _ => False) X) (hR : ∀ n, J 0 n → R n (.nx env)) : (forB g b fg items env).wp n R X :=
  forT_wp (fun k n e => J k n ∧ e = env) ⟨h0, rfl⟩ (fun d hd k n e hJ => by
    obtain ⟨h1, rfl⟩ := hJ
    refine T.wp_mono (fun n o h => ?_) (fun _ _ z => z) _ _ (hs d hd k n h1)
    cases o with
    | nx e => exact h
    | rt v => exact h.elim
    | bk e => exact h.elim
    | ct e => exact h.elim) (fun n e hJ => by
    obtain ⟨h1, rfl⟩ := hJ
    exact hR n h1)
theorem law_true : (runL "blend" 5 q_law).wp 4000000 (fun _ d => d = .bl true) noX := by
  unfold q_law runL envL
  have r4 : rng1F [.int 4] = some (rints 0 4) := rfl
  simp -implicitDefEqProofs [s_seq, s_nx, s_brk, s_cnt, s_ret, s_retN, s_iff, s_for, s_asg, s_par2, s_par3, s_drop, s_newL, s_newD, s_app, s_ext, s_frz, s_fgt, thenS_nx, thenS_rt, thenS_bk, thenS_ct, iteS_t, iteS_f, iteE_t, iteE_f, andE_t, andE_f, andT_t, andT_f, orT_t, orT_f, e_con, e_var, e_o1, e_o2, e_m2, e_on, e_ot, e_ok, e_and, e_ifx, e_sl, e_lc, e_disp, e_bor, e_oix, t_tst, t_tb, t_tru, t_not, t_and, t_or, t_yes, evA, evO, evW, evP, evG, evGs, getE, setE, forE, wipE, envS, outV, outI, in_e, in_p, in_s, in_w, kd_end', pe_, ee_, kt_, kf_, at_0, at_1, at_2, ownL, List.replicate, isB, sizeLine, cont_nx, cont_ct, -in_ss, -mod_ii, -rng1_i, -rng2_i, r4]
  refine (T.wp_bind _ _ _).mpr ((T.wp_bind _ _ _).mpr (forB_wp (fun k n => 1000 * k + 1000 ≤ n) (by simp [rints_map]) (fun d hd k n hJ => ?_) fun n hJ => ?_))
  · simp -implicitDefEqProofs [s_seq, s_nx, s_brk, s_cnt, s_ret, s_retN, s_iff, s_for, s_asg, s_par2, s_par3, s_drop, s_newL, s_newD, s_app, s_ext, s_frz, s_fgt, thenS_nx, thenS_rt, thenS_bk, thenS_ct, iteS_t, iteS_f, iteE_t, iteE_f, andE_t, andE_f, andT_t, andT_f, orT_t, orT_f, e_con, e_var, e_o1, e_o2, e_m2, e_on, e_ot, e_ok, e_and, e_ifx, e_sl, e_lc, e_disp, e_bor, e_oix, t_tst, t_tb, t_tru, t_not, t_and, t_or, t_yes, evA, evO, evW, evP, evG, evGs, getE, setE, forE, wipE, envS, outV, outI, in_e, in_p, in_s, in_w, kd_end', pe_, ee_, kt_, kf_, at_0, at_1, at_2, ownL, List.replicate, isB, sizeLine, cont_nx, cont_ct, -in_ss, -mod_ii, -rng1_i, -rng2_i, stepB]
    simp only [thenS_bind, T.bind_assoc]
    refine (T.wp_bind _ _ _).mpr (F_cloth_wp (by omega) fun n1 m w A P hm hw hn1 => ?_)
    simp -implicitDefEqProofs [s_seq, s_nx, s_brk, s_cnt, s_ret, s_retN, s_iff, s_for, s_asg, s_par2, s_par3, s_drop, s_newL, s_newD, s_app, s_ext, s_frz, s_fgt, thenS_nx, thenS_rt, thenS_bk, thenS_ct, iteS_t, iteS_f, iteE_t, iteE_f, andE_t, andE_f, andT_t, andT_f, orT_t, orT_f, e_con, e_var, e_o1, e_o2, e_m2, e_on, e_ot, e_ok, e_and, e_ifx, e_sl, e_lc, e_disp, e_bor, e_oix, t_tst, t_tb, t_tru, t_not, t_and, t_or, t_yes, evA, evO, evW, evP, evG, evGs, getE, setE, forE, wipE, envS, outV, outI, in_e, in_p, in_s, in_w, kd_end', pe_, ee_, kt_, kf_, at_0, at_1, at_2, ownL, List.replicate, isB, sizeLine, cont_nx, cont_ct, -in_ss, -mod_ii, -rng1_i, -rng2_i]
    simp only [T.bind_assoc]
    refine (T.wp_bind _ _ _).mpr (F_motion_wp (by omega) fun n2 a hn2 => ?_)
    refine (T.wp_bind _ _ _).mpr (F_motion_wp (by omega) fun n3 b hn3 => ?_)
    have e1 := F_right_eq P (by omega) (by omega) a b
    simp -implicitDefEqProofs [s_seq, s_nx, s_brk, s_cnt, s_ret, s_retN, s_iff, s_for, s_asg, s_par2, s_par3, s_drop, s_newL, s_newD, s_app, s_ext, s_frz, s_fgt, thenS_nx, thenS_rt, thenS_bk, thenS_ct, iteS_t, iteS_f, iteE_t, iteE_f, andE_t, andE_f, andT_t, andT_f, orT_t, orT_f, e_con, e_var, e_o1, e_o2, e_m2, e_on, e_ot, e_ok, e_and, e_ifx, e_sl, e_lc, e_disp, e_bor, e_oix, t_tst, t_tb, t_tru, t_not, t_and, t_or, t_yes, evA, evO, evW, evP, evG, evGs, getE, setE, forE, wipE, envS, outV, outI, in_e, in_p, in_s, in_w, kd_end', pe_, ee_, kt_, kf_, at_0, at_1, at_2, ownL, List.replicate, isB, sizeLine, cont_nx, cont_ct, -in_ss, -mod_ii, -rng1_i, -rng2_i, e1]
    exact wp_ret ⟨by omega, rfl⟩
  · refine Eq.mpr (?_ : _ = (Dv.bl true = Dv.bl true)) rfl
    kernel_rfl
end K60

set_option Elab.async false
set_option linter.all false
set_option maxRecDepth 100000
set_option maxHeartbeats 4000000
namespace K60
open PySem PySem.Spec L2 DL
section
variable {P : Program} {w : World} {K : PySem.W.Frag} {mg : Str → Option Value} {base : Heap}
theorem mkb_strand_led_strand_motion_cloth {f : Addr} {fd : FuncData} (F : Fun K "strand_led" "strand_led" s_strand_led f fd) : KBinds K fd ["cloth", "motion", "strand"] ["strand", "motion", "cloth"] (kwP 0 [2, 1, 0]) (kwP 0 [2, 1, 0]) :=
  kbinds_of F (fun _ _ _ _ _ _ us ws hl =>
    have hh := kwP_len (n := 0) (is := [2, 1, 0]) (us := us) (ws := ws) (m := 3) (k := 3) hl (by decide) (by decide)
    match us, ws, hh.1, hh.2 with
    | [], [], _, h2 => by simp at h2
    | [], [_], _, h2 => by simp at h2
    | [], [_, _], _, h2 => by simp at h2
    | [], _ :: _ :: _ :: _, _, _ => rfl
    | _ :: _, _, h1, _ => by simp at h1) (kwP_vals 0 [2, 1, 0])
theorem mkb_moved_motion_cloth {f : Addr} {fd : FuncData} (F : Fun K "moved" "moved" s_moved f fd) : KBinds K fd ["cloth", "motion"] ["motion", "cloth"] (kwP 0 [1, 0]) (kwP 0 [1, 0]) :=
  kbinds_of F (fun _ _ _ _ _ _ us ws hl =>
    have hh := kwP_len (n := 0) (is := [1, 0]) (us := us) (ws := ws) (m := 2) (k := 2) hl (by decide) (by decide)
    match us, ws, hh.1, hh.2 with
    | [], [], _, h2 => by simp at h2
    | [], [_], _, h2 => by simp at h2
    | [], _ :: _ :: _, _, _ => rfl
    | _ :: _, _, h1, _ => by simp at h1) (kwP_vals 0 [1, 0])
theorem ok_is_pick {f : Addr} {fd : FuncData} (F : Fun K "is_pick" "is_pick" s_is_pick f fd) (T : Txt K w mg) : FnG P w K mg base CX0 1 f fd ["thing"] (spD K mg (ctF F_is_pick)) :=
  fnF F sc_is_pick rfl rfl fun cdv A outer s H E hg hr => d_is_pick T hg hr
theorem ok_Cloth___init__ {f : Addr} {fd : FuncData} (F : Fun K "__init__" "Cloth.__init__" s_Cloth___init__ f fd) (T : Txt K w mg) {f_is_pick : Addr} {fd_is_pick : FuncData} (D_is_pick : Df P w K mg base 1 "is_pick" ["thing"] (ctF F_is_pick) f_is_pick fd_is_pick) : FnG P w K mg base CX0 2 f fd ["self", "picks"] (spI K mg "Cloth" (ctF F_Cloth___init__)) :=
  fnIF F sc_Cloth___init__ rfl rfl fun cdv A outer s H E hg hr => d_Cloth___init__ T D_is_pick hg hr
theorem ok__law_draw {f : Addr} {fd : FuncData} (F : Fun K "_law_draw" "_law_draw" s__law_draw f fd) (T : Txt K w mg) : FnG P w K mg base CX0 1 f fd ["_law_deck_here", "_law_below"] (spD K mg (ctF F__law_draw)) :=
  fnD F sc__law_draw (fun n ds R h => by obtain ⟨_, rfl, _⟩ := drawF_wp h; rfl) fun cdv A outer s H E hg hr => ⟨t__law_draw K, d__law_draw T hg hr, fun n ds R hC c hK _ => by subst hK; exact w__law_draw hC⟩
theorem ok__law_pick {f : Addr} {fd : FuncData} (F : Fun K "_law_pick" "_law_pick" s__law_pick f fd) (T : Txt K w mg) {f__law_draw : Addr} {fd__law_draw : FuncData} (D__law_draw : Df P w K mg base 1 "_law_draw" ["_law_deck_here", "_law_below"] (ctF F__law_draw) f__law_draw fd__law_draw) : FnG P w K mg base CX0 2 f fd ["_law_deck_here", "_law_some"] (spD K mg (ctF F__law_pick)) :=
  fnF F sc__law_pick rfl rfl fun cdv A outer s H E hg hr => d__law_pick T D__law_draw hg hr
theorem ok__law_cloth {f : Addr} {fd : FuncData} (F : Fun K "_law_cloth" "_law_cloth" s__law_cloth f fd) (T : Txt K w mg) {f__law_draw : Addr} {fd__law_draw : FuncData} (D__law_draw : Df P w K mg base 1 "_law_draw" ["_law_deck_here", "_law_below"] (ctF F__law_draw) f__law_draw fd__law_draw) {f__law_pick : Addr} {fd__law_pick : FuncData} (D__law_pick : Df P w K mg base 2 "_law_pick" ["_law_deck_here", "_law_some"] (ctF F__law_pick) f__law_pick fd__law_pick) : FnG P w K mg base CX0 3 f fd ["_law_deck_here", "_law_tall", "_law_broad"] (spD K mg (ctF F__law_cloth)) :=
  fnF F sc__law_cloth rfl rfl fun cdv A outer s H E hg hr => d__law_cloth T D__law_draw D__law_pick hg hr
theorem ok__law_deck {f : Addr} {fd : FuncData} (F : Fun K "_law_deck" "_law_deck" s__law_deck f fd) (T : Txt K w mg) : FnG P w K mg base CX0 1 f fd ["_law_script"] (spD K mg (deckC "blend")) :=
  fnD F sc__law_deck (fun n ds R h => by obtain ⟨_, rfl, _⟩ := h; rfl) fun cdv A outer s H E hg hr => ⟨t__law_deck K, d__law_deck T hg hr, fun n ds R hC c hK _ => by subst hK; exact w__law_deck hC⟩
theorem ok__law_turns {f : Addr} {fd : FuncData} (F : Fun K "_law_turns" "_law_turns" s__law_turns f fd) (T : Txt K w mg) : FnG P w K mg base CX0 1 f fd [] (spD K mg (ctF F__law_turns)) :=
  fnF F sc__law_turns rfl rfl fun cdv A outer s H E hg hr => d__law_turns T hg hr
theorem ok__law_motion {f : Addr} {fd : FuncData} (F : Fun K "_law_motion" "_law_motion" s__law_motion f fd) (T : Txt K w mg) {f__law_draw : Addr} {fd__law_draw : FuncData} (D__law_draw : Df P w K mg base 1 "_law_draw" ["_law_deck_here", "_law_below"] (ctF F__law_draw) f__law_draw fd__law_draw) {f__law_pick : Addr} {fd__law_pick : FuncData} (D__law_pick : Df P w K mg base 2 "_law_pick" ["_law_deck_here", "_law_some"] (ctF F__law_pick) f__law_pick fd__law_pick) {f__law_turns : Addr} {fd__law_turns : FuncData} (D__law_turns : Df P w K mg base 1 "_law_turns" [] (ctF F__law_turns) f__law_turns fd__law_turns) : FnG P w K mg base CX0 3 f fd ["_law_deck_here"] (spD K mg (ctF F__law_motion)) :=
  fnF F sc__law_motion rfl rfl fun cdv A outer s H E hg hr => d__law_motion T D__law_draw D__law_pick D__law_turns hg hr
theorem ok_Cloth___eq__ {f : Addr} {fd : FuncData} (F : Fun K "__eq__" "Cloth.__eq__" s_Cloth___eq__ f fd) (T : Txt K w mg) : FnG P w K mg base CX0 1 f fd ["self", "other"] (spD K mg (ctF F_Cloth___eq__)) :=
  fnF F sc_Cloth___eq__ rfl rfl fun cdv A outer s H E hg hr => d_Cloth___eq__ T hg hr
theorem ok__law_other {f : Addr} {fd : FuncData} (F : Fun K "_law_other" "_law_other" s__law_other f fd) (T : Txt K w mg) : FnG P w K mg base CX0 1 f fd ["_law_sign"] (spD K mg (ctF F__law_other)) :=
  fnF F sc__law_other rfl rfl fun cdv A outer s H E hg hr => d__law_other T hg hr
theorem ok__law_moved {f : Addr} {fd : FuncData} (F : Fun K "_law_moved" "_law_moved" s__law_moved f fd) (T : Txt K w mg) {f__law_other : Addr} {fd__law_other : FuncData} (D__law_other : Df P w K mg base 1 "_law_other" ["_law_sign"] (ctF F__law_other) f__law_other fd__law_other) : FnG P w K mg base CX0 2 f fd ["_law_pic", "_law_act"] (spD K mg (ctF F__law_moved)) :=
  fnF F sc__law_moved rfl rfl fun cdv A outer s H E hg hr => d__law_moved T D__law_other hg hr
theorem ok__law_led {f : Addr} {fd : FuncData} (F : Fun K "_law_led" "_law_led" s__law_led f fd) (T : Txt K w mg) : FnG P w K mg base CX0 1 f fd ["_law_act", "_law_spot"] (spD K mg (ctF F__law_led)) :=
  fnF F sc__law_led rfl rfl fun cdv A outer s H E hg hr => d__law_led T hg hr
theorem ok__law_periods {f : Addr} {fd : FuncData} (F : Fun K "_law_periods" "_law_periods" s__law_periods f fd) (T : Txt K w mg) : FnG P w K mg base CX0 1 f fd ["_law_pic"] (spD K mg (ctF F__law_periods)) :=
  fnF F sc__law_periods rfl rfl fun cdv A outer s H E hg hr => d__law_periods T hg hr
theorem ok__law_spots {f : Addr} {fd : FuncData} (F : Fun K "_law_spots" "_law_spots" s__law_spots f fd) (T : Txt K w mg) {f__law_periods : Addr} {fd__law_periods : FuncData} (D__law_periods : Df P w K mg base 1 "_law_periods" ["_law_pic"] (ctF F__law_periods) f__law_periods fd__law_periods) : FnG P w K mg base CX0 2 f fd ["_law_pic"] (spD K mg (ctF F__law_spots)) :=
  fnF F sc__law_spots rfl rfl fun cdv A outer s H E hg hr => d__law_spots T D__law_periods hg hr
theorem ok_is_over {f : Addr} {fd : FuncData} (F : Fun K "is_over" "is_over" s_is_over f fd) (T : Txt K w mg) : FnG P w K mg base CX0 1 f fd ["cloth", "one", "other"] (spD K mg (ctF F_is_over)) :=
  fnF F sc_is_over rfl rfl fun cdv A outer s H E hg hr => d_is_over T hg hr
theorem ok_least_period {f : Addr} {fd : FuncData} (F : Fun K "least_period" "least_period" s_least_period f fd) (T : Txt K w mg) : FnG P w K mg base CX0 1 f fd ["row"] (spD K mg (ctF F_least_period)) :=
  fnF F sc_least_period rfl rfl fun cdv A outer s H E hg hr => d_least_period T hg hr
theorem ok_periods {f : Addr} {fd : FuncData} (F : Fun K "periods" "periods" s_periods f fd) (T : Txt K w mg) {f_least_period : Addr} {fd_least_period : FuncData} (D_least_period : Df P w K mg base 1 "least_period" ["row"] (ctF F_least_period) f_least_period fd_least_period) : FnG P w K mg base CX0 2 f fd ["cloth"] (spD K mg (ctF F_periods)) :=
  fnF F sc_periods rfl rfl fun cdv A outer s H E hg hr => d_periods T D_least_period hg hr
theorem ok_strand_behind {f : Addr} {fd : FuncData} (F : Fun K "strand_behind" "strand_behind" s_strand_behind f fd) (T : Txt K w mg) : FnG P w K mg base CX0 1 f fd ["size", "motion", "strand"] (spD K mg (ctF F_strand_behind)) :=
  fnF F sc_strand_behind rfl rfl fun cdv A outer s H E hg hr => d_strand_behind T hg hr
theorem ok_strand_led {f : Addr} {fd : FuncData} (F : Fun K "strand_led" "strand_led" s_strand_led f fd) (T : Txt K w mg) {f_periods : Addr} {fd_periods : FuncData} (D_periods : Df P w K mg base 2 "periods" ["cloth"] (ctF F_periods) f_periods fd_periods) {f_strand_behind : Addr} {fd_strand_behind : FuncData} (D_strand_behind : Df P w K mg base 1 "strand_behind" ["size", "motion", "strand"] (ctF F_strand_behind) f_strand_behind fd_strand_behind) : FnG P w K mg base CX0 3 f fd ["cloth", "motion", "strand"] (spD K mg (ctF F_strand_led)) :=
  fnF F sc_strand_led rfl rfl fun cdv A outer s H E hg hr => d_strand_led T D_periods D_strand_behind hg hr
theorem ok__law_strands_right {f : Addr} {fd : FuncData} (F : Fun K "_law_strands_right" "_law_strands_right" s__law_strands_right f fd) (T : Txt K w mg) {C_Cloth___init__ f_Cloth___init__ : Addr} {fd_Cloth___init__ : FuncData} (I_Cloth___init__ : Ci P w K mg base 2 "Cloth" ["self", "picks"] F_Cloth___init__ C_Cloth___init__ f_Cloth___init__ fd_Cloth___init__) {f__law_led : Addr} {fd__law_led : FuncData} (D__law_led : Df P w K mg base 1 "_law_led" ["_law_act", "_law_spot"] (ctF F__law_led) f__law_led fd__law_led) {f__law_moved : Addr} {fd__law_moved : FuncData} (D__law_moved : Df P w K mg base 2 "_law_moved" ["_law_pic", "_law_act"] (ctF F__law_moved) f__law_moved fd__law_moved) {f__law_periods : Addr} {fd__law_periods : FuncData} (D__law_periods : Df P w K mg base 1 "_law_periods" ["_law_pic"] (ctF F__law_periods) f__law_periods fd__law_periods) {f__law_spots : Addr} {fd__law_spots : FuncData} (D__law_spots : Df P w K mg base 2 "_law_spots" ["_law_pic"] (ctF F__law_spots) f__law_spots fd__law_spots) {f_is_over : Addr} {fd_is_over : FuncData} (D_is_over : Df P w K mg base 1 "is_over" ["cloth", "one", "other"] (ctF F_is_over) f_is_over fd_is_over) {f_strand_led : Addr} {fd_strand_led : FuncData} (D_strand_led : Df P w K mg base 3 "strand_led" ["cloth", "motion", "strand"] (ctF F_strand_led) f_strand_led fd_strand_led) (kb_strand_led_strand_motion_cloth : KBinds K fd_strand_led ["cloth", "motion", "strand"] ["strand", "motion", "cloth"] (kwP 0 [2, 1, 0]) (kwP 0 [2, 1, 0])) : FnG P w K mg base CX0 4 f fd ["_law_pic", "_law_act"] (spD K mg (ctF F__law_strands_right)) :=
  fnF F sc__law_strands_right rfl rfl fun cdv A outer s H E hg hr => d__law_strands_right T I_Cloth___init__ D__law_led D__law_moved D__law_periods D__law_spots D_is_over D_strand_led kb_strand_led_strand_motion_cloth hg hr
theorem ok_back_of {f : Addr} {fd : FuncData} (F : Fun K "back_of" "back_of" s_back_of f fd) (T : Txt K w mg) : FnG P w K mg base CX0 1 f fd ["motion"] (spD K mg (ctF F_back_of)) :=
  fnF F sc_back_of rfl rfl fun cdv A outer s H E hg hr => d_back_of T hg hr
theorem ok_turn_behind {f : Addr} {fd : FuncData} (F : Fun K "turn_behind" "turn_behind" s_turn_behind f fd) (T : Txt K w mg) : FnG P w K mg base CX0 1 f fd ["turn", "later"] (spD K mg (ctF F_turn_behind)) :=
  fnF F sc_turn_behind rfl rfl fun cdv A outer s H E hg hr => d_turn_behind T hg hr
theorem ok_behind {f : Addr} {fd : FuncData} (F : Fun K "behind" "behind" s_behind f fd) (T : Txt K w mg) {f_turn_behind : Addr} {fd_turn_behind : FuncData} (D_turn_behind : Df P w K mg base 1 "turn_behind" ["turn", "later"] (ctF F_turn_behind) f_turn_behind fd_turn_behind) : FnG P w K mg base CX0 2 f fd ["one", "other"] (spD K mg (ctF F_behind)) :=
  fnF F sc_behind rfl rfl fun cdv A outer s H E hg hr => d_behind T D_turn_behind hg hr
theorem ok_moved_picks {f : Addr} {fd : FuncData} (F : Fun K "moved_picks" "moved_picks" s_moved_picks f fd) (T : Txt K w mg) : FnG P w K mg base CX0 1 f fd ["picks", "motion"] (spD K mg (ctF F_moved_picks)) :=
  fnF F sc_moved_picks rfl rfl fun cdv A outer s H E hg hr => d_moved_picks T hg hr
theorem ok_moved {f : Addr} {fd : FuncData} (F : Fun K "moved" "moved" s_moved f fd) (T : Txt K w mg) {C_Cloth___init__ f_Cloth___init__ : Addr} {fd_Cloth___init__ : FuncData} (I_Cloth___init__ : Ci P w K mg base 2 "Cloth" ["self", "picks"] F_Cloth___init__ C_Cloth___init__ f_Cloth___init__ fd_Cloth___init__) {f_moved_picks : Addr} {fd_moved_picks : FuncData} (D_moved_picks : Df P w K mg base 1 "moved_picks" ["picks", "motion"] (ctF F_moved_picks) f_moved_picks fd_moved_picks) : FnG P w K mg base CX0 4 f fd ["cloth", "motion"] (spD K mg (ctF F_moved)) :=
  fnF F sc_moved rfl rfl fun cdv A outer s H E hg hr => d_moved T I_Cloth___init__ D_moved_picks hg hr
theorem ok__law_right {f : Addr} {fd : FuncData} (F : Fun K "_law_right" "_law_right" s__law_right f fd) (T : Txt K w mg) {C_Cloth___eq__ f_Cloth___eq__ : Addr} {fd_Cloth___eq__ : FuncData} (M_Cloth___eq__ : Mi P w K mg base 1 "Cloth" "__eq__" ["self", "other"] F_Cloth___eq__ C_Cloth___eq__ f_Cloth___eq__ fd_Cloth___eq__) {C_Cloth___init__ f_Cloth___init__ : Addr} {fd_Cloth___init__ : FuncData} (I_Cloth___init__ : Ci P w K mg base 2 "Cloth" ["self", "picks"] F_Cloth___init__ C_Cloth___init__ f_Cloth___init__ fd_Cloth___init__) {f__law_moved : Addr} {fd__law_moved : FuncData} (D__law_moved : Df P w K mg base 2 "_law_moved" ["_law_pic", "_law_act"] (ctF F__law_moved) f__law_moved fd__law_moved) {f__law_strands_right : Addr} {fd__law_strands_right : FuncData} (D__law_strands_right : Df P w K mg base 4 "_law_strands_right" ["_law_pic", "_law_act"] (ctF F__law_strands_right) f__law_strands_right fd__law_strands_right) {f_back_of : Addr} {fd_back_of : FuncData} (D_back_of : Df P w K mg base 1 "back_of" ["motion"] (ctF F_back_of) f_back_of fd_back_of) {f_behind : Addr} {fd_behind : FuncData} (D_behind : Df P w K mg base 2 "behind" ["one", "other"] (ctF F_behind) f_behind fd_behind) {f_moved : Addr} {fd_moved : FuncData} (D_moved : Df P w K mg base 4 "moved" ["cloth", "motion"] (ctF F_moved) f_moved fd_moved) (kb_moved_motion_cloth : KBinds K fd_moved ["cloth", "motion"] ["motion", "cloth"] (kwP 0 [1, 0]) (kwP 0 [1, 0])) : FnG P w K mg base CX0 5 f fd ["_law_pic", "_law_act", "_law_more"] (spD K mg (ctF F__law_right)) :=
  fnF F sc__law_right rfl rfl fun cdv A outer s H E hg hr => d__law_right T M_Cloth___eq__ I_Cloth___init__ D__law_moved D__law_strands_right D_back_of D_behind D_moved kb_moved_motion_cloth hg hr
theorem ok_law {f : Addr} {fd : FuncData} (F : Fun K "law" "law" s_law f fd) (T : Txt K w mg) {C_Cloth___init__ f_Cloth___init__ : Addr} {fd_Cloth___init__ : FuncData} (I_Cloth___init__ : Ci P w K mg base 2 "Cloth" ["self", "picks"] F_Cloth___init__ C_Cloth___init__ f_Cloth___init__ fd_Cloth___init__) {f__law_cloth : Addr} {fd__law_cloth : FuncData} (D__law_cloth : Df P w K mg base 3 "_law_cloth" ["_law_deck_here", "_law_tall", "_law_broad"] (ctF F__law_cloth) f__law_cloth fd__law_cloth) {f__law_deck : Addr} {fd__law_deck : FuncData} (D__law_deck : Df P w K mg base 1 "_law_deck" ["_law_script"] (deckC "blend") f__law_deck fd__law_deck) {f__law_motion : Addr} {fd__law_motion : FuncData} (D__law_motion : Df P w K mg base 3 "_law_motion" ["_law_deck_here"] (ctF F__law_motion) f__law_motion fd__law_motion) {f__law_right : Addr} {fd__law_right : FuncData} (D__law_right : Df P w K mg base 5 "_law_right" ["_law_pic", "_law_act", "_law_more"] (ctF F__law_right) f__law_right fd__law_right) {f_moved : Addr} {fd_moved : FuncData} (D_moved : Df P w K mg base 4 "moved" ["cloth", "motion"] (ctF F_moved) f_moved fd_moved) {f_strand_led : Addr} {fd_strand_led : FuncData} (D_strand_led : Df P w K mg base 3 "strand_led" ["cloth", "motion", "strand"] (ctF F_strand_led) f_strand_led fd_strand_led) : FnG P w K mg base CX0 6 f fd ["_law_script"] (spL K) :=
  lawF (kb := "blend") F sc_law (by decide) rfl (fun cdv A outer s H E hg hr => d_law T I_Cloth___init__ D__law_cloth D__law_deck D__law_motion D__law_right D_moved D_strand_led hg hr) law_true
end
theorem all_mk {l : PySem.W.OpenLaw} {w : World} {K : PySem.W.Frag} {h : Heap} {mg : Str → Option Value} {fa C_Cloth f_is_pick f_Cloth___init__ f__law_draw f__law_pick f__law_cloth f__law_deck f__law_turns f__law_motion f_Cloth___eq__ f__law_other f__law_moved f__law_led f__law_periods f__law_spots f_is_over f_least_period f_periods f_strand_behind f_strand_led f__law_strands_right f_back_of f_turn_behind f_behind f_moved_picks f_moved f__law_right f_law d_OPPOSITE d_OTHER : Addr} (X : K.In h) (G : h.Ns mainGlobals mg) (hfa : mg "law" = some (.ref fa))
    {od_is_pick an_is_pick od_Cloth___init__ an_Cloth___init__ od__law_draw an__law_draw od__law_pick an__law_pick od__law_cloth an__law_cloth od__law_deck an__law_deck od__law_turns an__law_turns od__law_motion an__law_motion od_Cloth___eq__ an_Cloth___eq__ od__law_other an__law_other od__law_moved an__law_moved od__law_led an__law_led od__law_periods an__law_periods od__law_spots an__law_spots od_is_over an_is_over od_least_period an_least_period od_periods an_periods od_strand_behind an_strand_behind od_strand_led an_strand_led od__law_strands_right an__law_strands_right od_back_of an_back_of od_turn_behind an_turn_behind od_behind an_behind od_moved_picks an_moved_picks od_moved an_moved od__law_right an__law_right od_law an_law : Option Addr} {sl_is_pick sl_Cloth___init__ sl__law_draw sl__law_pick sl__law_cloth sl__law_deck sl__law_turns sl__law_motion sl_Cloth___eq__ sl__law_other sl__law_moved sl__law_led sl__law_periods sl__law_spots sl_is_over sl_least_period sl_periods sl_strand_behind sl_strand_led sl__law_strands_right sl_back_of sl_turn_behind sl_behind sl_moved_picks sl_moved sl__law_right sl_law : Array (Option Value)} {oc_is_pick kV_is_pick dc_is_pick pm_is_pick cd_is_pick ct_is_pick oc_Cloth___init__ kV_Cloth___init__ dc_Cloth___init__ pm_Cloth___init__ cd_Cloth___init__ ct_Cloth___init__ oc__law_draw kV__law_draw dc__law_draw pm__law_draw cd__law_draw ct__law_draw oc__law_pick kV__law_pick dc__law_pick pm__law_pick cd__law_pick ct__law_pick oc__law_cloth kV__law_cloth dc__law_cloth pm__law_cloth cd__law_cloth ct__law_cloth oc__law_deck kV__law_deck dc__law_deck pm__law_deck cd__law_deck ct__law_deck oc__law_turns kV__law_turns dc__law_turns pm__law_turns cd__law_turns ct__law_turns oc__law_motion kV__law_motion dc__law_motion pm__law_motion cd__law_motion ct__law_motion oc_Cloth___eq__ kV_Cloth___eq__ dc_Cloth___eq__ pm_Cloth___eq__ cd_Cloth___eq__ ct_Cloth___eq__ oc__law_other kV__law_other dc__law_other pm__law_other cd__law_other ct__law_other oc__law_moved kV__law_moved dc__law_moved pm__law_moved cd__law_moved ct__law_moved oc__law_led kV__law_led dc__law_led pm__law_led cd__law_led ct__law_led oc__law_periods kV__law_periods dc__law_periods pm__law_periods cd__law_periods ct__law_periods oc__law_spots kV__law_spots dc__law_spots pm__law_spots cd__law_spots ct__law_spots oc_is_over kV_is_over dc_is_over pm_is_over cd_is_over ct_is_over oc_least_period kV_least_period dc_least_period pm_least_period cd_least_period ct_least_period oc_periods kV_periods dc_periods pm_periods cd_periods ct_periods oc_strand_behind kV_strand_behind dc_strand_behind pm_strand_behind cd_strand_behind ct_strand_behind oc_strand_led kV_strand_led dc_strand_led pm_strand_led cd_strand_led ct_strand_led oc__law_strands_right kV__law_strands_right dc__law_strands_right pm__law_strands_right cd__law_strands_right ct__law_strands_right oc_back_of kV_back_of dc_back_of pm_back_of cd_back_of ct_back_of oc_turn_behind kV_turn_behind dc_turn_behind pm_turn_behind cd_turn_behind ct_turn_behind oc_behind kV_behind dc_behind pm_behind cd_behind ct_behind oc_moved_picks kV_moved_picks dc_moved_picks pm_moved_picks cd_moved_picks ct_moved_picks oc_moved kV_moved dc_moved pm_moved cd_moved ct_moved oc__law_right kV__law_right dc__law_right pm__law_right cd__law_right ct__law_right oc_law kV_law dc_law pm_law cd_law ct_law : Value}
    {t_ABOVE t_BELOW t_END t_LETTERS t_PICK : Tok}
    {es_OPPOSITE : Array DictEntry} {n_OPPOSITE : Nat}
    {es_OTHER : Array DictEntry} {n_OTHER : Nat}
    (aC_Cloth : PySem.W.nsIn K mainGlobals "Cloth" = some (some (.ref C_Cloth)))
    (a_is_pick : PySem.W.nsIn K mainGlobals "is_pick" = some (some (.ref f_is_pick)))
    (l_is_pick : K.lookup f_is_pick = some ⟨oc_is_pick, od_is_pick, .func (PySem.W.fnOf "is_pick" "is_pick" (defArgs s_is_pick) (defBody s_is_pick) (defScope s_is_pick) .none kV_is_pick dc_is_pick pm_is_pick an_is_pick cd_is_pick ct_is_pick), sl_is_pick⟩)
    (c_is_pick : PySem.W.codeIn K cd_is_pick "is_pick" = true)
    (k_is_pick : PySem.W.keepIn K (.ref f_is_pick) = true)
    (a_Cloth___init__ : PySem.W.findIn K (.ref C_Cloth) "__init__" = some (some (.ref f_Cloth___init__)))
    (i_Cloth___init__ : PySem.W.isFn K (.ref f_Cloth___init__) = true)
    (l_Cloth___init__ : K.lookup f_Cloth___init__ = some ⟨oc_Cloth___init__, od_Cloth___init__, .func (PySem.W.fnOf "__init__" "Cloth.__init__" (defArgs s_Cloth___init__) (defBody s_Cloth___init__) (defScope s_Cloth___init__) .none kV_Cloth___init__ dc_Cloth___init__ pm_Cloth___init__ an_Cloth___init__ cd_Cloth___init__ ct_Cloth___init__), sl_Cloth___init__⟩)
    (c_Cloth___init__ : PySem.W.codeIn K cd_Cloth___init__ "Cloth.__init__" = true)
    (k_Cloth___init__ : PySem.W.keepIn K (.ref f_Cloth___init__) = true)
    (a__law_draw : PySem.W.nsIn K mainGlobals "_law_draw" = some (some (.ref f__law_draw)))
    (l__law_draw : K.lookup f__law_draw = some ⟨oc__law_draw, od__law_draw, .func (PySem.W.fnOf "_law_draw" "_law_draw" (defArgs s__law_draw) (defBody s__law_draw) (defScope s__law_draw) .none kV__law_draw dc__law_draw pm__law_draw an__law_draw cd__law_draw ct__law_draw), sl__law_draw⟩)
    (c__law_draw : PySem.W.codeIn K cd__law_draw "_law_draw" = true)
    (k__law_draw : PySem.W.keepIn K (.ref f__law_draw) = true)
    (a__law_pick : PySem.W.nsIn K mainGlobals "_law_pick" = some (some (.ref f__law_pick)))
    (l__law_pick : K.lookup f__law_pick = some ⟨oc__law_pick, od__law_pick, .func (PySem.W.fnOf "_law_pick" "_law_pick" (defArgs s__law_pick) (defBody s__law_pick) (defScope s__law_pick) .none kV__law_pick dc__law_pick pm__law_pick an__law_pick cd__law_pick ct__law_pick), sl__law_pick⟩)
    (c__law_pick : PySem.W.codeIn K cd__law_pick "_law_pick" = true)
    (k__law_pick : PySem.W.keepIn K (.ref f__law_pick) = true)
    (a__law_cloth : PySem.W.nsIn K mainGlobals "_law_cloth" = some (some (.ref f__law_cloth)))
    (l__law_cloth : K.lookup f__law_cloth = some ⟨oc__law_cloth, od__law_cloth, .func (PySem.W.fnOf "_law_cloth" "_law_cloth" (defArgs s__law_cloth) (defBody s__law_cloth) (defScope s__law_cloth) .none kV__law_cloth dc__law_cloth pm__law_cloth an__law_cloth cd__law_cloth ct__law_cloth), sl__law_cloth⟩)
    (c__law_cloth : PySem.W.codeIn K cd__law_cloth "_law_cloth" = true)
    (k__law_cloth : PySem.W.keepIn K (.ref f__law_cloth) = true)
    (a__law_deck : PySem.W.nsIn K mainGlobals "_law_deck" = some (some (.ref f__law_deck)))
    (l__law_deck : K.lookup f__law_deck = some ⟨oc__law_deck, od__law_deck, .func (PySem.W.fnOf "_law_deck" "_law_deck" (defArgs s__law_deck) (defBody s__law_deck) (defScope s__law_deck) .none kV__law_deck dc__law_deck pm__law_deck an__law_deck cd__law_deck ct__law_deck), sl__law_deck⟩)
    (c__law_deck : PySem.W.codeIn K cd__law_deck "_law_deck" = true)
    (k__law_deck : PySem.W.keepIn K (.ref f__law_deck) = true)
    (a__law_turns : PySem.W.nsIn K mainGlobals "_law_turns" = some (some (.ref f__law_turns)))
    (l__law_turns : K.lookup f__law_turns = some ⟨oc__law_turns, od__law_turns, .func (PySem.W.fnOf "_law_turns" "_law_turns" (defArgs s__law_turns) (defBody s__law_turns) (defScope s__law_turns) .none kV__law_turns dc__law_turns pm__law_turns an__law_turns cd__law_turns ct__law_turns), sl__law_turns⟩)
    (c__law_turns : PySem.W.codeIn K cd__law_turns "_law_turns" = true)
    (k__law_turns : PySem.W.keepIn K (.ref f__law_turns) = true)
    (a__law_motion : PySem.W.nsIn K mainGlobals "_law_motion" = some (some (.ref f__law_motion)))
    (l__law_motion : K.lookup f__law_motion = some ⟨oc__law_motion, od__law_motion, .func (PySem.W.fnOf "_law_motion" "_law_motion" (defArgs s__law_motion) (defBody s__law_motion) (defScope s__law_motion) .none kV__law_motion dc__law_motion pm__law_motion an__law_motion cd__law_motion ct__law_motion), sl__law_motion⟩)
    (c__law_motion : PySem.W.codeIn K cd__law_motion "_law_motion" = true)
    (k__law_motion : PySem.W.keepIn K (.ref f__law_motion) = true)
    (a_Cloth___eq__ : PySem.W.findIn K (.ref C_Cloth) "__eq__" = some (some (.ref f_Cloth___eq__)))
    (i_Cloth___eq__ : PySem.W.isFn K (.ref f_Cloth___eq__) = true)
    (l_Cloth___eq__ : K.lookup f_Cloth___eq__ = some ⟨oc_Cloth___eq__, od_Cloth___eq__, .func (PySem.W.fnOf "__eq__" "Cloth.__eq__" (defArgs s_Cloth___eq__) (defBody s_Cloth___eq__) (defScope s_Cloth___eq__) .none kV_Cloth___eq__ dc_Cloth___eq__ pm_Cloth___eq__ an_Cloth___eq__ cd_Cloth___eq__ ct_Cloth___eq__), sl_Cloth___eq__⟩)
    (c_Cloth___eq__ : PySem.W.codeIn K cd_Cloth___eq__ "Cloth.__eq__" = true)
    (k_Cloth___eq__ : PySem.W.keepIn K (.ref f_Cloth___eq__) = true)
    (a__law_other : PySem.W.nsIn K mainGlobals "_law_other" = some (some (.ref f__law_other)))
    (l__law_other : K.lookup f__law_other = some ⟨oc__law_other, od__law_other, .func (PySem.W.fnOf "_law_other" "_law_other" (defArgs s__law_other) (defBody s__law_other) (defScope s__law_other) .none kV__law_other dc__law_other pm__law_other an__law_other cd__law_other ct__law_other), sl__law_other⟩)
    (c__law_other : PySem.W.codeIn K cd__law_other "_law_other" = true)
    (k__law_other : PySem.W.keepIn K (.ref f__law_other) = true)
    (a__law_moved : PySem.W.nsIn K mainGlobals "_law_moved" = some (some (.ref f__law_moved)))
    (l__law_moved : K.lookup f__law_moved = some ⟨oc__law_moved, od__law_moved, .func (PySem.W.fnOf "_law_moved" "_law_moved" (defArgs s__law_moved) (defBody s__law_moved) (defScope s__law_moved) .none kV__law_moved dc__law_moved pm__law_moved an__law_moved cd__law_moved ct__law_moved), sl__law_moved⟩)
    (c__law_moved : PySem.W.codeIn K cd__law_moved "_law_moved" = true)
    (k__law_moved : PySem.W.keepIn K (.ref f__law_moved) = true)
    (a__law_led : PySem.W.nsIn K mainGlobals "_law_led" = some (some (.ref f__law_led)))
    (l__law_led : K.lookup f__law_led = some ⟨oc__law_led, od__law_led, .func (PySem.W.fnOf "_law_led" "_law_led" (defArgs s__law_led) (defBody s__law_led) (defScope s__law_led) .none kV__law_led dc__law_led pm__law_led an__law_led cd__law_led ct__law_led), sl__law_led⟩)
    (c__law_led : PySem.W.codeIn K cd__law_led "_law_led" = true)
    (k__law_led : PySem.W.keepIn K (.ref f__law_led) = true)
    (a__law_periods : PySem.W.nsIn K mainGlobals "_law_periods" = some (some (.ref f__law_periods)))
    (l__law_periods : K.lookup f__law_periods = some ⟨oc__law_periods, od__law_periods, .func (PySem.W.fnOf "_law_periods" "_law_periods" (defArgs s__law_periods) (defBody s__law_periods) (defScope s__law_periods) .none kV__law_periods dc__law_periods pm__law_periods an__law_periods cd__law_periods ct__law_periods), sl__law_periods⟩)
    (c__law_periods : PySem.W.codeIn K cd__law_periods "_law_periods" = true)
    (k__law_periods : PySem.W.keepIn K (.ref f__law_periods) = true)
    (a__law_spots : PySem.W.nsIn K mainGlobals "_law_spots" = some (some (.ref f__law_spots)))
    (l__law_spots : K.lookup f__law_spots = some ⟨oc__law_spots, od__law_spots, .func (PySem.W.fnOf "_law_spots" "_law_spots" (defArgs s__law_spots) (defBody s__law_spots) (defScope s__law_spots) .none kV__law_spots dc__law_spots pm__law_spots an__law_spots cd__law_spots ct__law_spots), sl__law_spots⟩)
    (c__law_spots : PySem.W.codeIn K cd__law_spots "_law_spots" = true)
    (k__law_spots : PySem.W.keepIn K (.ref f__law_spots) = true)
    (a_is_over : PySem.W.nsIn K mainGlobals "is_over" = some (some (.ref f_is_over)))
    (l_is_over : K.lookup f_is_over = some ⟨oc_is_over, od_is_over, .func (PySem.W.fnOf "is_over" "is_over" (defArgs s_is_over) (defBody s_is_over) (defScope s_is_over) .none kV_is_over dc_is_over pm_is_over an_is_over cd_is_over ct_is_over), sl_is_over⟩)
    (c_is_over : PySem.W.codeIn K cd_is_over "is_over" = true)
    (k_is_over : PySem.W.keepIn K (.ref f_is_over) = true)
    (a_least_period : PySem.W.nsIn K mainGlobals "least_period" = some (some (.ref f_least_period)))
    (l_least_period : K.lookup f_least_period = some ⟨oc_least_period, od_least_period, .func (PySem.W.fnOf "least_period" "least_period" (defArgs s_least_period) (defBody s_least_period) (defScope s_least_period) .none kV_least_period dc_least_period pm_least_period an_least_period cd_least_period ct_least_period), sl_least_period⟩)
    (c_least_period : PySem.W.codeIn K cd_least_period "least_period" = true)
    (k_least_period : PySem.W.keepIn K (.ref f_least_period) = true)
    (a_periods : PySem.W.nsIn K mainGlobals "periods" = some (some (.ref f_periods)))
    (l_periods : K.lookup f_periods = some ⟨oc_periods, od_periods, .func (PySem.W.fnOf "periods" "periods" (defArgs s_periods) (defBody s_periods) (defScope s_periods) .none kV_periods dc_periods pm_periods an_periods cd_periods ct_periods), sl_periods⟩)
    (c_periods : PySem.W.codeIn K cd_periods "periods" = true)
    (k_periods : PySem.W.keepIn K (.ref f_periods) = true)
    (a_strand_behind : PySem.W.nsIn K mainGlobals "strand_behind" = some (some (.ref f_strand_behind)))
    (l_strand_behind : K.lookup f_strand_behind = some ⟨oc_strand_behind, od_strand_behind, .func (PySem.W.fnOf "strand_behind" "strand_behind" (defArgs s_strand_behind) (defBody s_strand_behind) (defScope s_strand_behind) .none kV_strand_behind dc_strand_behind pm_strand_behind an_strand_behind cd_strand_behind ct_strand_behind), sl_strand_behind⟩)
    (c_strand_behind : PySem.W.codeIn K cd_strand_behind "strand_behind" = true)
    (k_strand_behind : PySem.W.keepIn K (.ref f_strand_behind) = true)
    (a_strand_led : PySem.W.nsIn K mainGlobals "strand_led" = some (some (.ref f_strand_led)))
    (l_strand_led : K.lookup f_strand_led = some ⟨oc_strand_led, od_strand_led, .func (PySem.W.fnOf "strand_led" "strand_led" (defArgs s_strand_led) (defBody s_strand_led) (defScope s_strand_led) .none kV_strand_led dc_strand_led pm_strand_led an_strand_led cd_strand_led ct_strand_led), sl_strand_led⟩)
    (c_strand_led : PySem.W.codeIn K cd_strand_led "strand_led" = true)
    (k_strand_led : PySem.W.keepIn K (.ref f_strand_led) = true)
    (a__law_strands_right : PySem.W.nsIn K mainGlobals "_law_strands_right" = some (some (.ref f__law_strands_right)))
    (l__law_strands_right : K.lookup f__law_strands_right = some ⟨oc__law_strands_right, od__law_strands_right, .func (PySem.W.fnOf "_law_strands_right" "_law_strands_right" (defArgs s__law_strands_right) (defBody s__law_strands_right) (defScope s__law_strands_right) .none kV__law_strands_right dc__law_strands_right pm__law_strands_right an__law_strands_right cd__law_strands_right ct__law_strands_right), sl__law_strands_right⟩)
    (c__law_strands_right : PySem.W.codeIn K cd__law_strands_right "_law_strands_right" = true)
    (k__law_strands_right : PySem.W.keepIn K (.ref f__law_strands_right) = true)
    (a_back_of : PySem.W.nsIn K mainGlobals "back_of" = some (some (.ref f_back_of)))
    (l_back_of : K.lookup f_back_of = some ⟨oc_back_of, od_back_of, .func (PySem.W.fnOf "back_of" "back_of" (defArgs s_back_of) (defBody s_back_of) (defScope s_back_of) .none kV_back_of dc_back_of pm_back_of an_back_of cd_back_of ct_back_of), sl_back_of⟩)
    (c_back_of : PySem.W.codeIn K cd_back_of "back_of" = true)
    (k_back_of : PySem.W.keepIn K (.ref f_back_of) = true)
    (a_turn_behind : PySem.W.nsIn K mainGlobals "turn_behind" = some (some (.ref f_turn_behind)))
    (l_turn_behind : K.lookup f_turn_behind = some ⟨oc_turn_behind, od_turn_behind, .func (PySem.W.fnOf "turn_behind" "turn_behind" (defArgs s_turn_behind) (defBody s_turn_behind) (defScope s_turn_behind) .none kV_turn_behind dc_turn_behind pm_turn_behind an_turn_behind cd_turn_behind ct_turn_behind), sl_turn_behind⟩)
    (c_turn_behind : PySem.W.codeIn K cd_turn_behind "turn_behind" = true)
    (k_turn_behind : PySem.W.keepIn K (.ref f_turn_behind) = true)
    (a_behind : PySem.W.nsIn K mainGlobals "behind" = some (some (.ref f_behind)))
    (l_behind : K.lookup f_behind = some ⟨oc_behind, od_behind, .func (PySem.W.fnOf "behind" "behind" (defArgs s_behind) (defBody s_behind) (defScope s_behind) .none kV_behind dc_behind pm_behind an_behind cd_behind ct_behind), sl_behind⟩)
    (c_behind : PySem.W.codeIn K cd_behind "behind" = true)
    (k_behind : PySem.W.keepIn K (.ref f_behind) = true)
    (a_moved_picks : PySem.W.nsIn K mainGlobals "moved_picks" = some (some (.ref f_moved_picks)))
    (l_moved_picks : K.lookup f_moved_picks = some ⟨oc_moved_picks, od_moved_picks, .func (PySem.W.fnOf "moved_picks" "moved_picks" (defArgs s_moved_picks) (defBody s_moved_picks) (defScope s_moved_picks) .none kV_moved_picks dc_moved_picks pm_moved_picks an_moved_picks cd_moved_picks ct_moved_picks), sl_moved_picks⟩)
    (c_moved_picks : PySem.W.codeIn K cd_moved_picks "moved_picks" = true)
    (k_moved_picks : PySem.W.keepIn K (.ref f_moved_picks) = true)
    (a_moved : PySem.W.nsIn K mainGlobals "moved" = some (some (.ref f_moved)))
    (l_moved : K.lookup f_moved = some ⟨oc_moved, od_moved, .func (PySem.W.fnOf "moved" "moved" (defArgs s_moved) (defBody s_moved) (defScope s_moved) .none kV_moved dc_moved pm_moved an_moved cd_moved ct_moved), sl_moved⟩)
    (c_moved : PySem.W.codeIn K cd_moved "moved" = true)
    (k_moved : PySem.W.keepIn K (.ref f_moved) = true)
    (a__law_right : PySem.W.nsIn K mainGlobals "_law_right" = some (some (.ref f__law_right)))
    (l__law_right : K.lookup f__law_right = some ⟨oc__law_right, od__law_right, .func (PySem.W.fnOf "_law_right" "_law_right" (defArgs s__law_right) (defBody s__law_right) (defScope s__law_right) .none kV__law_right dc__law_right pm__law_right an__law_right cd__law_right ct__law_right), sl__law_right⟩)
    (c__law_right : PySem.W.codeIn K cd__law_right "_law_right" = true)
    (k__law_right : PySem.W.keepIn K (.ref f__law_right) = true)
    (a_law : PySem.W.nsIn K mainGlobals "law" = some (some (.ref f_law)))
    (l_law : K.lookup f_law = some ⟨oc_law, od_law, .func (PySem.W.fnOf "law" "law" (defArgs s_law) (defBody s_law) (defScope s_law) .none kV_law dc_law pm_law an_law cd_law ct_law), sl_law⟩)
    (c_law : PySem.W.codeIn K cd_law "law" = true)
    (k_law : PySem.W.keepIn K (.ref f_law) = true)
    (pg_Cloth : PySem.W.plainGet K C_Cloth Str.empty = true)
    (hd_Cloth : PySem.W.hasDictIn K C_Cloth = true)
    (po_Cloth : PySem.W.plainOver K C_Cloth = true)
    (sa_Cloth : PySem.W.findIn K (.ref C_Cloth) "__setattr__" = some (some (.builtin "object.__setattr__")))
    (mk_Cloth : PySem.W.makesIn K C_Cloth = true)
    (kc_Cloth : PySem.W.keepIn K (.ref C_Cloth) = true)
    (nf_Cloth_picks : PySem.W.findIn K (.ref C_Cloth) "picks" = some none)
    (nf_Cloth_ends : PySem.W.findIn K (.ref C_Cloth) "ends" = some none)
    (im_Cloth : PySem.W.kitOne K (.ref C_Cloth) (.ref C_Cloth) = some true)
    (in_Cloth_NoneType : PySem.W.kitOne K (.type "NoneType") (.ref C_Cloth) = some false)
    (in_Cloth_bool : PySem.W.kitOne K (.type "bool") (.ref C_Cloth) = some false)
    (in_Cloth_int : PySem.W.kitOne K (.type "int") (.ref C_Cloth) = some false)
    (in_Cloth_str : PySem.W.kitOne K (.type "str") (.ref C_Cloth) = some false)
    (in_Cloth_tuple : PySem.W.kitOne K (.type "tuple") (.ref C_Cloth) = some false)
    (in_Cloth_list : PySem.W.kitOne K (.type "list") (.ref C_Cloth) = some false)
    (in_Cloth_dict : PySem.W.kitOne K (.type "dict") (.ref C_Cloth) = some false)
    (ih_Cloth : PySem.W.findIn K (.ref C_Cloth) "__class__" = some (some (.builtin "object.__class__")))
    (iq_Cloth : PySem.W.specialIn K (.builtin "object.__class__") "__get__" = some (some (.builtin "getset_descriptor.__get__")))
    (it_Cloth : PySem.W.takesIn K (.builtin "object.__class__") = some true)
    (io_Cloth : PySem.W.mroIn K C_Cloth (.type "object") = some true)
    (z_all : PySem.W.nsIn K mainGlobals "all" = some none)
    (z_enumerate : PySem.W.nsIn K mainGlobals "enumerate" = some none)
    (z_int : PySem.W.nsIn K mainGlobals "int" = some none)
    (z_isinstance : PySem.W.nsIn K mainGlobals "isinstance" = some none)
    (z_len : PySem.W.nsIn K mainGlobals "len" = some none)
    (z_list : PySem.W.nsIn K mainGlobals "list" = some none)
    (z_range : PySem.W.nsIn K mainGlobals "range" = some none)
    (z_repr : PySem.W.nsIn K mainGlobals "repr" = some none)
    (z_sorted : PySem.W.nsIn K mainGlobals "sorted" = some none)
    (z_str : PySem.W.nsIn K mainGlobals "str" = some none)
    (z_sum : PySem.W.nsIn K mainGlobals "sum" = some none)
    (z_tuple : PySem.W.nsIn K mainGlobals "tuple" = some none)
    (v_ABOVE : PySem.W.nsIn K mainGlobals "ABOVE" = some (some (.str "x" t_ABOVE)))
    (v_BELOW : PySem.W.nsIn K mainGlobals "BELOW" = some (some (.str "-" t_BELOW)))
    (v_END : PySem.W.nsIn K mainGlobals "END" = some (some (.str "end" t_END)))
    (v_LETTERS : PySem.W.nsIn K mainGlobals "LETTERS" = some (some (.str "epsw" t_LETTERS)))
    (v_PICK : PySem.W.nsIn K mainGlobals "PICK" = some (some (.str "pick" t_PICK)))
    (ka_OPPOSITE : PySem.W.nsIn K mainGlobals "OPPOSITE" = some (some (.ref d_OPPOSITE)))
    (kl_OPPOSITE : K.lookup d_OPPOSITE = some ⟨.type "dict", none, .dict es_OPPOSITE n_OPPOSITE, #[]⟩)
    (kk_OPPOSITE : PySem.W.KeysLit w.params es_OPPOSITE.toList)
    (ks_OPPOSITE : (d_OPPOSITE == sysModules) = false)
    (kt_OPPOSITE : TabOk tab_OPPOSITE es_OPPOSITE.toList)
    (ka_OTHER : PySem.W.nsIn K mainGlobals "OTHER" = some (some (.ref d_OTHER)))
    (kl_OTHER : K.lookup d_OTHER = some ⟨.type "dict", none, .dict es_OTHER n_OTHER, #[]⟩)
    (kk_OTHER : PySem.W.KeysLit w.params es_OTHER.toList)
    (ks_OTHER : (d_OTHER == sysModules) = false)
    (kt_OTHER : TabOk tab_OTHER es_OTHER.toList) :
    ∃ fd : FuncData, (∀ (s : Shared) (v : Value), BindsTo s fd ⟨[v], []⟩ [("_law_script", v)]) ∧ ∀ base : Heap, K.In base → base.Ns mainGlobals mg → FnG l.prog w K mg base CX0 6 fa fd ["_law_script"] (spL K) := by
  have e := hfa.symm.trans (PySem.W.mg_of X G a_law)
  cases e
  have F_is_pick := fun_mk (st := s_is_pick) l_is_pick c_is_pick k_is_pick
  have F_Cloth___init__ := fun_mk (st := s_Cloth___init__) l_Cloth___init__ c_Cloth___init__ k_Cloth___init__
  have F__law_draw := fun_mk (st := s__law_draw) l__law_draw c__law_draw k__law_draw
  have F__law_pick := fun_mk (st := s__law_pick) l__law_pick c__law_pick k__law_pick
  have F__law_cloth := fun_mk (st := s__law_cloth) l__law_cloth c__law_cloth k__law_cloth
  have F__law_deck := fun_mk (st := s__law_deck) l__law_deck c__law_deck k__law_deck
  have F__law_turns := fun_mk (st := s__law_turns) l__law_turns c__law_turns k__law_turns
  have F__law_motion := fun_mk (st := s__law_motion) l__law_motion c__law_motion k__law_motion
  have F_Cloth___eq__ := fun_mk (st := s_Cloth___eq__) l_Cloth___eq__ c_Cloth___eq__ k_Cloth___eq__
  have F__law_other := fun_mk (st := s__law_other) l__law_other c__law_other k__law_other
  have F__law_moved := fun_mk (st := s__law_moved) l__law_moved c__law_moved k__law_moved
  have F__law_led := fun_mk (st := s__law_led) l__law_led c__law_led k__law_led
  have F__law_periods := fun_mk (st := s__law_periods) l__law_periods c__law_periods k__law_periods
  have F__law_spots := fun_mk (st := s__law_spots) l__law_spots c__law_spots k__law_spots
  have F_is_over := fun_mk (st := s_is_over) l_is_over c_is_over k_is_over
  have F_least_period := fun_mk (st := s_least_period) l_least_period c_least_period k_least_period
  have F_periods := fun_mk (st := s_periods) l_periods c_periods k_periods
  have F_strand_behind := fun_mk (st := s_strand_behind) l_strand_behind c_strand_behind k_strand_behind
  have F_strand_led := fun_mk (st := s_strand_led) l_strand_led c_strand_led k_strand_led
  have F__law_strands_right := fun_mk (st := s__law_strands_right) l__law_strands_right c__law_strands_right k__law_strands_right
  have F_back_of := fun_mk (st := s_back_of) l_back_of c_back_of k_back_of
  have F_turn_behind := fun_mk (st := s_turn_behind) l_turn_behind c_turn_behind k_turn_behind
  have F_behind := fun_mk (st := s_behind) l_behind c_behind k_behind
  have F_moved_picks := fun_mk (st := s_moved_picks) l_moved_picks c_moved_picks k_moved_picks
  have F_moved := fun_mk (st := s_moved) l_moved c_moved k_moved
  have F__law_right := fun_mk (st := s__law_right) l__law_right c__law_right k__law_right
  have F_law := fun_mk (st := s_law) l_law c_law k_law
  have T : Txt K w mg := ⟨PySem.W.mg_none_of X G z_all, PySem.W.mg_none_of X G z_enumerate, PySem.W.mg_none_of X G z_int, PySem.W.mg_none_of X G z_isinstance, PySem.W.mg_none_of X G z_len, PySem.W.mg_none_of X G z_list, PySem.W.mg_none_of X G z_range, PySem.W.mg_none_of X G z_repr, PySem.W.mg_none_of X G z_sorted, PySem.W.mg_none_of X G z_str, PySem.W.mg_none_of X G z_sum, PySem.W.mg_none_of X G z_tuple, ⟨t_ABOVE, PySem.W.mg_of X G v_ABOVE⟩, ⟨t_BELOW, PySem.W.mg_of X G v_BELOW⟩, ⟨t_END, PySem.W.mg_of X G v_END⟩, ⟨t_LETTERS, PySem.W.mg_of X G v_LETTERS⟩, ⟨t_PICK, PySem.W.mg_of X G v_PICK⟩, ⟨d_OPPOSITE, PySem.W.mg_of X G ka_OPPOSITE, ⟨es_OPPOSITE, n_OPPOSITE, ⟨kl_OPPOSITE, kk_OPPOSITE, ks_OPPOSITE⟩, kt_OPPOSITE⟩⟩, ⟨d_OTHER, PySem.W.mg_of X G ka_OTHER, ⟨es_OTHER, n_OTHER, ⟨kl_OTHER, kk_OTHER, ks_OTHER⟩, kt_OTHER⟩⟩, ⟨C_Cloth, PySem.W.mg_of X G aC_Cloth, ⟨im_Cloth, (by intro T hT; simp only [bTypes, List.mem_cons, List.not_mem_nil, or_false] at hT; rcases hT with rfl | rfl | rfl | rfl | rfl | rfl | rfl <;> assumption), ih_Cloth, iq_Cloth, it_Cloth, io_Cloth⟩⟩⟩
  have b_is_pick := F_is_pick.binds (ps := ["thing"]) fun _ _ _ _ _ _ us hl => match us, hl with | [_], _ => rfl
  have b_Cloth___init__ := F_Cloth___init__.binds (ps := ["self", "picks"]) fun _ _ _ _ _ _ us hl => match us, hl with | [_, _], _ => rfl
  have b__law_draw := F__law_draw.binds (ps := ["_law_deck_here", "_law_below"]) fun _ _ _ _ _ _ us hl => match us, hl with | [_, _], _ => rfl
  have b__law_pick := F__law_pick.binds (ps := ["_law_deck_here", "_law_some"]) fun _ _ _ _ _ _ us hl => match us, hl with | [_, _], _ => rfl
  have b__law_cloth := F__law_cloth.binds (ps := ["_law_deck_here", "_law_tall", "_law_broad"]) fun _ _ _ _ _ _ us hl => match us, hl with | [_, _, _], _ => rfl
  have b__law_deck := F__law_deck.binds (ps := ["_law_script"]) fun _ _ _ _ _ _ us hl => match us, hl with | [_], _ => rfl
  have b__law_turns := F__law_turns.binds (ps := []) fun _ _ _ _ _ _ us hl => match us, hl with | [], _ => rfl
  have b__law_motion := F__law_motion.binds (ps := ["_law_deck_here"]) fun _ _ _ _ _ _ us hl => match us, hl with | [_], _ => rfl
  have b_Cloth___eq__ := F_Cloth___eq__.binds (ps := ["self", "other"]) fun _ _ _ _ _ _ us hl => match us, hl with | [_, _], _ => rfl
  have b__law_other := F__law_other.binds (ps := ["_law_sign"]) fun _ _ _ _ _ _ us hl => match us, hl with | [_], _ => rfl
  have b__law_moved := F__law_moved.binds (ps := ["_law_pic", "_law_act"]) fun _ _ _ _ _ _ us hl => match us, hl with | [_, _], _ => rfl
  have b__law_led := F__law_led.binds (ps := ["_law_act", "_law_spot"]) fun _ _ _ _ _ _ us hl => match us, hl with | [_, _], _ => rfl
  have b__law_periods := F__law_periods.binds (ps := ["_law_pic"]) fun _ _ _ _ _ _ us hl => match us, hl with | [_], _ => rfl
  have b__law_spots := F__law_spots.binds (ps := ["_law_pic"]) fun _ _ _ _ _ _ us hl => match us, hl with | [_], _ => rfl
  have b_is_over := F_is_over.binds (ps := ["cloth", "one", "other"]) fun _ _ _ _ _ _ us hl => match us, hl with | [_, _, _], _ => rfl
  have b_least_period := F_least_period.binds (ps := ["row"]) fun _ _ _ _ _ _ us hl => match us, hl with | [_], _ => rfl
  have b_periods := F_periods.binds (ps := ["cloth"]) fun _ _ _ _ _ _ us hl => match us, hl with | [_], _ => rfl
  have b_strand_behind := F_strand_behind.binds (ps := ["size", "motion", "strand"]) fun _ _ _ _ _ _ us hl => match us, hl with | [_, _, _], _ => rfl
  have b_strand_led := F_strand_led.binds (ps := ["cloth", "motion", "strand"]) fun _ _ _ _ _ _ us hl => match us, hl with | [_, _, _], _ => rfl
  have b__law_strands_right := F__law_strands_right.binds (ps := ["_law_pic", "_law_act"]) fun _ _ _ _ _ _ us hl => match us, hl with | [_, _], _ => rfl
  have b_back_of := F_back_of.binds (ps := ["motion"]) fun _ _ _ _ _ _ us hl => match us, hl with | [_], _ => rfl
  have b_turn_behind := F_turn_behind.binds (ps := ["turn", "later"]) fun _ _ _ _ _ _ us hl => match us, hl with | [_, _], _ => rfl
  have b_behind := F_behind.binds (ps := ["one", "other"]) fun _ _ _ _ _ _ us hl => match us, hl with | [_, _], _ => rfl
  have b_moved_picks := F_moved_picks.binds (ps := ["picks", "motion"]) fun _ _ _ _ _ _ us hl => match us, hl with | [_, _], _ => rfl
  have b_moved := F_moved.binds (ps := ["cloth", "motion"]) fun _ _ _ _ _ _ us hl => match us, hl with | [_, _], _ => rfl
  have b__law_right := F__law_right.binds (ps := ["_law_pic", "_law_act", "_law_more"]) fun _ _ _ _ _ _ us hl => match us, hl with | [_, _, _], _ => rfl
  have kb_strand_led_strand_motion_cloth := mkb_strand_led_strand_motion_cloth F_strand_led
  have kb_moved_motion_cloth := mkb_moved_motion_cloth F_moved
  have cl_Cloth : Cls K C_Cloth := ⟨pg_Cloth, hd_Cloth, po_Cloth, sa_Cloth⟩
  have ok_Cloth : ClsOk K C_Cloth "Cloth" := ⟨cl_Cloth, by rw [show flds "Cloth" = (["picks", "ends"] : List Str) from by decide +kernel]; intro f hf; simp only [List.mem_cons, List.not_mem_nil, or_false] at hf; rcases hf with rfl | rfl <;> assumption⟩
  refine ⟨PySem.W.fnOf "law" "law" (defArgs s_law) (defBody s_law) (defScope s_law) .none kV_law dc_law pm_law an_law cd_law ct_law, fun s v => .of_eq rfl, fun base _ _ => ?_⟩
  have D_is_pick : Df l.prog w K mg base 1 "is_pick" ["thing"] (ctF K60.F_is_pick) f_is_pick _ := ⟨PySem.W.mg_of X G a_is_pick, k_is_pick, b_is_pick, ok_is_pick F_is_pick T⟩
  have I_Cloth___init__ : Ci l.prog w K mg base 2 "Cloth" ["self", "picks"] K60.F_Cloth___init__ C_Cloth f_Cloth___init__ _ := ⟨PySem.W.mg_of X G aC_Cloth, ok_Cloth, ⟨mk_Cloth, a_Cloth___init__, i_Cloth___init__, kc_Cloth⟩, b_Cloth___init__, K60.ok_Cloth___init__ F_Cloth___init__ T D_is_pick⟩
  have D__law_draw : Df l.prog w K mg base 1 "_law_draw" ["_law_deck_here", "_law_below"] (ctF K60.F__law_draw) f__law_draw _ := ⟨PySem.W.mg_of X G a__law_draw, k__law_draw, b__law_draw, ok__law_draw F__law_draw T⟩
  have D__law_pick : Df l.prog w K mg base 2 "_law_pick" ["_law_deck_here", "_law_some"] (ctF K60.F__law_pick) f__law_pick _ := ⟨PySem.W.mg_of X G a__law_pick, k__law_pick, b__law_pick, ok__law_pick F__law_pick T D__law_draw⟩
  have D__law_cloth : Df l.prog w K mg base 3 "_law_cloth" ["_law_deck_here", "_law_tall", "_law_broad"] (ctF K60.F__law_cloth) f__law_cloth _ := ⟨PySem.W.mg_of X G a__law_cloth, k__law_cloth, b__law_cloth, ok__law_cloth F__law_cloth T D__law_draw D__law_pick⟩
  have D__law_deck : Df l.prog w K mg base 1 "_law_deck" ["_law_script"] (deckC "blend") f__law_deck _ := ⟨PySem.W.mg_of X G a__law_deck, k__law_deck, b__law_deck, ok__law_deck F__law_deck T⟩
  have D__law_turns : Df l.prog w K mg base 1 "_law_turns" [] (ctF K60.F__law_turns) f__law_turns _ := ⟨PySem.W.mg_of X G a__law_turns, k__law_turns, b__law_turns, ok__law_turns F__law_turns T⟩
  have D__law_motion : Df l.prog w K mg base 3 "_law_motion" ["_law_deck_here"] (ctF K60.F__law_motion) f__law_motion _ := ⟨PySem.W.mg_of X G a__law_motion, k__law_motion, b__law_motion, ok__law_motion F__law_motion T D__law_draw D__law_pick D__law_turns⟩
  have M_Cloth___eq__ : Mi l.prog w K mg base 1 "Cloth" "__eq__" ["self", "other"] K60.F_Cloth___eq__ C_Cloth f_Cloth___eq__ _ := ⟨PySem.W.mg_of X G aC_Cloth, cl_Cloth, ⟨a_Cloth___eq__, i_Cloth___eq__, k_Cloth___eq__⟩, b_Cloth___eq__, K60.ok_Cloth___eq__ F_Cloth___eq__ T⟩
  have D__law_other : Df l.prog w K mg base 1 "_law_other" ["_law_sign"] (ctF K60.F__law_other) f__law_other _ := ⟨PySem.W.mg_of X G a__law_other, k__law_other, b__law_other, ok__law_other F__law_other T⟩
  have D__law_moved : Df l.prog w K mg base 2 "_law_moved" ["_law_pic", "_law_act"] (ctF K60.F__law_moved) f__law_moved _ := ⟨PySem.W.mg_of X G a__law_moved, k__law_moved, b__law_moved, ok__law_moved F__law_moved T D__law_other⟩
  have D__law_led : Df l.prog w K mg base 1 "_law_led" ["_law_act", "_law_spot"] (ctF K60.F__law_led) f__law_led _ := ⟨PySem.W.mg_of X G a__law_led, k__law_led, b__law_led, ok__law_led F__law_led T⟩
  have D__law_periods : Df l.prog w K mg base 1 "_law_periods" ["_law_pic"] (ctF K60.F__law_periods) f__law_periods _ := ⟨PySem.W.mg_of X G a__law_periods, k__law_periods, b__law_periods, ok__law_periods F__law_periods T⟩
  have D__law_spots : Df l.prog w K mg base 2 "_law_spots" ["_law_pic"] (ctF K60.F__law_spots) f__law_spots _ := ⟨PySem.W.mg_of X G a__law_spots, k__law_spots, b__law_spots, ok__law_spots F__law_spots T D__law_periods⟩
  have D_is_over : Df l.prog w K mg base 1 "is_over" ["cloth", "one", "other"] (ctF K60.F_is_over) f_is_over _ := ⟨PySem.W.mg_of X G a_is_over, k_is_over, b_is_over, ok_is_over F_is_over T⟩
  have D_least_period : Df l.prog w K mg base 1 "least_period" ["row"] (ctF K60.F_least_period) f_least_period _ := ⟨PySem.W.mg_of X G a_least_period, k_least_period, b_least_period, ok_least_period F_least_period T⟩
  have D_periods : Df l.prog w K mg base 2 "periods" ["cloth"] (ctF K60.F_periods) f_periods _ := ⟨PySem.W.mg_of X G a_periods, k_periods, b_periods, ok_periods F_periods T D_least_period⟩
  have D_strand_behind : Df l.prog w K mg base 1 "strand_behind" ["size", "motion", "strand"] (ctF K60.F_strand_behind) f_strand_behind _ := ⟨PySem.W.mg_of X G a_strand_behind, k_strand_behind, b_strand_behind, ok_strand_behind F_strand_behind T⟩
  have D_strand_led : Df l.prog w K mg base 3 "strand_led" ["cloth", "motion", "strand"] (ctF K60.F_strand_led) f_strand_led _ := ⟨PySem.W.mg_of X G a_strand_led, k_strand_led, b_strand_led, ok_strand_led F_strand_led T D_periods D_strand_behind⟩
  have D__law_strands_right : Df l.prog w K mg base 4 "_law_strands_right" ["_law_pic", "_law_act"] (ctF K60.F__law_strands_right) f__law_strands_right _ := ⟨PySem.W.mg_of X G a__law_strands_right, k__law_strands_right, b__law_strands_right, ok__law_strands_right F__law_strands_right T I_Cloth___init__ D__law_led D__law_moved D__law_periods D__law_spots D_is_over D_strand_led kb_strand_led_strand_motion_cloth⟩
  have D_back_of : Df l.prog w K mg base 1 "back_of" ["motion"] (ctF K60.F_back_of) f_back_of _ := ⟨PySem.W.mg_of X G a_back_of, k_back_of, b_back_of, ok_back_of F_back_of T⟩
  have D_turn_behind : Df l.prog w K mg base 1 "turn_behind" ["turn", "later"] (ctF K60.F_turn_behind) f_turn_behind _ := ⟨PySem.W.mg_of X G a_turn_behind, k_turn_behind, b_turn_behind, ok_turn_behind F_turn_behind T⟩
  have D_behind : Df l.prog w K mg base 2 "behind" ["one", "other"] (ctF K60.F_behind) f_behind _ := ⟨PySem.W.mg_of X G a_behind, k_behind, b_behind, ok_behind F_behind T D_turn_behind⟩
  have D_moved_picks : Df l.prog w K mg base 1 "moved_picks" ["picks", "motion"] (ctF K60.F_moved_picks) f_moved_picks _ := ⟨PySem.W.mg_of X G a_moved_picks, k_moved_picks, b_moved_picks, ok_moved_picks F_moved_picks T⟩
  have D_moved : Df l.prog w K mg base 4 "moved" ["cloth", "motion"] (ctF K60.F_moved) f_moved _ := ⟨PySem.W.mg_of X G a_moved, k_moved, b_moved, ok_moved F_moved T I_Cloth___init__ D_moved_picks⟩
  have D__law_right : Df l.prog w K mg base 5 "_law_right" ["_law_pic", "_law_act", "_law_more"] (ctF K60.F__law_right) f__law_right _ := ⟨PySem.W.mg_of X G a__law_right, k__law_right, b__law_right, ok__law_right F__law_right T M_Cloth___eq__ I_Cloth___init__ D__law_moved D__law_strands_right D_back_of D_behind D_moved kb_moved_motion_cloth⟩
  exact ok_law F_law T I_Cloth___init__ D__law_cloth D__law_deck D__law_motion D__law_right D_moved D_strand_led
theorem walk {l : PySem.W.OpenLaw} {q : Program} {loose : List Str} {XP : (Str → Option Value) → Heap → Prop} {YP : World → Heap → Prop} {d : DefRec} {K : Params → PySem.W.Frag} (hn : l.most = some 63) (hdf : d.params.defaults = [])
    (hY : ∀ (w : World) (h : Heap), YP w h → (K w.params).In h)
    (F : ∀ (w : World) (mg : Str → Option Value) (fa : Addr) (h : Heap), (K w.params).In h → h.Ns mainGlobals mg → mg d.name = some (.ref fa) →
      ∃ fd : FuncData, (∀ (s : Shared) (u : Value), BindsTo s fd ⟨[u], []⟩ [("_law_script", u)]) ∧ ∀ base : Heap, (K w.params).In base → base.Ns mainGlobals mg → FnG l.prog w (K w.params) mg base CX0 6 fa fd ["_law_script"] (spL (K w.params))) :
    PySem.W.WalkO q loose XP YP l.row.toRowW d [] (fun f vs => PySem.call f vs) :=
  walkG (n := 63) (k := 6) (x := "_law_script") (CX := fun _ => CX0) (sp := fun w => spL (K w.params)) hn (by decide) hdf ⟨rfl, by decide, by decide⟩ hY F (fun _ _ a ns _ _ hS => ⟨a, ns, rfl, hS, fun _ => rfl⟩) fun _ _ _ _ _ z => z
end K60
open PySem PySem.W PyProof.Rows
set_option maxRecDepth 100000 in
set_option maxHeartbeats 0 in
theorem PySem.Challenge.cw_loomhold_k60_cloths_and_strands_moved_holds : PySem.Challenge.rw_loomhold_k60_cloths_and_strands_moved.Holds := by
  w_on; o_law; k_head; (case hw => w_witness2)
  k_fill
  refine K60.walk (l := PySem.Challenge.rw_loomhold_k60_cloths_and_strands_moved) rfl rfl (fun w h Y => PySem.W.kIn_of Y) ?F
  case F =>
    intro w mg fa h KX G hmg
    refine' K60.all_mk KX G hmg ?aC_Cloth ?a_is_pick ?l_is_pick ?c_is_pick ?k_is_pick ?a_Cloth___init__ ?i_Cloth___init__ ?l_Cloth___init__ ?c_Cloth___init__ ?k_Cloth___init__ ?a__law_draw ?l__law_draw ?c__law_draw ?k__law_draw ?a__law_pick ?l__law_pick ?c__law_pick ?k__law_pick ?a__law_cloth ?l__law_cloth ?c__law_cloth ?k__law_cloth ?a__law_deck ?l__law_deck ?c__law_deck ?k__law_deck ?a__law_turns ?l__law_turns ?c__law_turns ?k__law_turns ?a__law_motion ?l__law_motion ?c__law_motion ?k__law_motion ?a_Cloth___eq__ ?i_Cloth___eq__ ?l_Cloth___eq__ ?c_Cloth___eq__ ?k_Cloth___eq__ ?a__law_other ?l__law_other ?c__law_other ?k__law_other ?a__law_moved ?l__law_moved ?c__law_moved ?k__law_moved ?a__law_led ?l__law_led ?c__law_led ?k__law_led ?a__law_periods ?l__law_periods ?c__law_periods ?k__law_periods ?a__law_spots ?l__law_spots ?c__law_spots ?k__law_spots ?a_is_over ?l_is_over ?c_is_over ?k_is_over ?a_least_period ?l_least_period ?c_least_period ?k_least_period ?a_periods ?l_periods ?c_periods ?k_periods ?a_strand_behind ?l_strand_behind ?c_strand_behind ?k_strand_behind ?a_strand_led ?l_strand_led ?c_strand_led ?k_strand_led ?a__law_strands_right ?l__law_strands_right ?c__law_strands_right ?k__law_strands_right ?a_back_of ?l_back_of ?c_back_of ?k_back_of ?a_turn_behind ?l_turn_behind ?c_turn_behind ?k_turn_behind ?a_behind ?l_behind ?c_behind ?k_behind ?a_moved_picks ?l_moved_picks ?c_moved_picks ?k_moved_picks ?a_moved ?l_moved ?c_moved ?k_moved ?a__law_right ?l__law_right ?c__law_right ?k__law_right ?a_law ?l_law ?c_law ?k_law ?pg_Cloth ?hd_Cloth ?po_Cloth ?sa_Cloth ?mk_Cloth ?kc_Cloth ?nf_Cloth_picks ?nf_Cloth_ends ?im_Cloth ?in_Cloth_NoneType ?in_Cloth_bool ?in_Cloth_int ?in_Cloth_str ?in_Cloth_tuple ?in_Cloth_list ?in_Cloth_dict ?ih_Cloth ?iq_Cloth ?it_Cloth ?io_Cloth ?z_all ?z_enumerate ?z_int ?z_isinstance ?z_len ?z_list ?z_range ?z_repr ?z_sorted ?z_str ?z_sum ?z_tuple ?v_ABOVE ?v_BELOW ?v_END ?v_LETTERS ?v_PICK ?ka_OPPOSITE ?kl_OPPOSITE ?kk_OPPOSITE ?ks_OPPOSITE ?kt_OPPOSITE ?ka_OTHER ?kl_OTHER ?kk_OTHER ?ks_OTHER ?kt_OTHER
    (case aC_Cloth => k_is)
    (case a_is_pick => k_is)
    (case l_is_pick => k_is)
    (case c_is_pick => k_is)
    (case k_is_pick => k_is)
    (case a_Cloth___init__ => k_is)
    (case i_Cloth___init__ => k_is)
    (case l_Cloth___init__ => k_is)
    (case c_Cloth___init__ => k_is)
    (case k_Cloth___init__ => k_is)
    (case a__law_draw => k_is)
    (case l__law_draw => k_is)
    (case c__law_draw => k_is)
    (case k__law_draw => k_is)
    (case a__law_pick => k_is)
    (case l__law_pick => k_is)
    (case c__law_pick => k_is)
    (case k__law_pick => k_is)
    (case a__law_cloth => k_is)
    (case l__law_cloth => k_is)
    (case c__law_cloth => k_is)
    (case k__law_cloth => k_is)
    (case a__law_deck => k_is)
    (case l__law_deck => k_is)
    (case c__law_deck => k_is)
    (case k__law_deck => k_is)
    (case a__law_turns => k_is)
    (case l__law_turns => k_is)
    (case c__law_turns => k_is)
    (case k__law_turns => k_is)
    (case a__law_motion => k_is)
    (case l__law_motion => k_is)
    (case c__law_motion => k_is)
    (case k__law_motion => k_is)
    (case a_Cloth___eq__ => k_is)
    (case i_Cloth___eq__ => k_is)
    (case l_Cloth___eq__ => k_is)
    (case c_Cloth___eq__ => k_is)
    (case k_Cloth___eq__ => k_is)
    (case a__law_other => k_is)
    (case l__law_other => k_is)
    (case c__law_other => k_is)
    (case k__law_other => k_is)
    (case a__law_moved => k_is)
    (case l__law_moved => k_is)
    (case c__law_moved => k_is)
    (case k__law_moved => k_is)
    (case a__law_led => k_is)
    (case l__law_led => k_is)
    (case c__law_led => k_is)
    (case k__law_led => k_is)
    (case a__law_periods => k_is)
    (case l__law_periods => k_is)
    (case c__law_periods => k_is)
    (case k__law_periods => k_is)
    (case a__law_spots => k_is)
    (case l__law_spots => k_is)
    (case c__law_spots => k_is)
    (case k__law_spots => k_is)
    (case a_is_over => k_is)
    (case l_is_over => k_is)
    (case c_is_over => k_is)
    (case k_is_over => k_is)
    (case a_least_period => k_is)
    (case l_least_period => k_is)
    (case c_least_period => k_is)
    (case k_least_period => k_is)
    (case a_periods => k_is)
    (case l_periods => k_is)
    (case c_periods => k_is)
    (case k_periods => k_is)
    (case a_strand_behind => k_is)
    (case l_strand_behind => k_is)
    (case c_strand_behind => k_is)
    (case k_strand_behind => k_is)
    (case a_strand_led => k_is)
    (case l_strand_led => k_is)
    (case c_strand_led => k_is)
    (case k_strand_led => k_is)
    (case a__law_strands_right => k_is)
    (case l__law_strands_right => k_is)
    (case c__law_strands_right => k_is)
    (case k__law_strands_right => k_is)
    (case a_back_of => k_is)
    (case l_back_of => k_is)
    (case c_back_of => k_is)
    (case k_back_of => k_is)
    (case a_turn_behind => k_is)
    (case l_turn_behind => k_is)
    (case c_turn_behind => k_is)
    (case k_turn_behind => k_is)
    (case a_behind => k_is)
    (case l_behind => k_is)
    (case c_behind => k_is)
    (case k_behind => k_is)
    (case a_moved_picks => k_is)
    (case l_moved_picks => k_is)
    (case c_moved_picks => k_is)
    (case k_moved_picks => k_is)
    (case a_moved => k_is)
    (case l_moved => k_is)
    (case c_moved => k_is)
    (case k_moved => k_is)
    (case a__law_right => k_is)
    (case l__law_right => k_is)
    (case c__law_right => k_is)
    (case k__law_right => k_is)
    (case a_law => k_is)
    (case l_law => k_is)
    (case c_law => k_is)
    (case k_law => k_is)
    (case pg_Cloth => k_is)
    (case hd_Cloth => k_is)
    (case po_Cloth => k_is)
    (case sa_Cloth => k_is)
    (case mk_Cloth => k_is)
    (case kc_Cloth => k_is)
    (case nf_Cloth_picks => k_is)
    (case nf_Cloth_ends => k_is)
    (case im_Cloth => exact if_pos (beq_self_eq_true _))
    (case in_Cloth_NoneType => kit_is)
    (case in_Cloth_bool => kit_is)
    (case in_Cloth_int => kit_is)
    (case in_Cloth_str => kit_is)
    (case in_Cloth_tuple => kit_is)
    (case in_Cloth_list => kit_is)
    (case in_Cloth_dict => kit_is)
    (case ih_Cloth => k_is)
    (case iq_Cloth => k_is)
    (case it_Cloth => k_is)
    (case io_Cloth => k_is)
    (case z_all => k_is)
    (case z_enumerate => k_is)
    (case z_int => k_is)
    (case z_isinstance => k_is)
    (case z_len => k_is)
    (case z_list => k_is)
    (case z_range => k_is)
    (case z_repr => k_is)
    (case z_sorted => k_is)
    (case z_str => k_is)
    (case z_sum => k_is)
    (case z_tuple => k_is)
    (case v_ABOVE => k_is)
    (case v_BELOW => k_is)
    (case v_END => k_is)
    (case v_LETTERS => k_is)
    (case v_PICK => k_is)
    (case ka_OPPOSITE => k_is)
    (case kl_OPPOSITE => k_is)
    (case kk_OPPOSITE => first | exact ⟨⟨_, _, rfl, rfl⟩, ⟨_, _, rfl, rfl⟩, trivial⟩ | (repeat' (first | exact trivial | refine ⟨⟨_, _, rfl, rfl⟩, ?_⟩)))
    (case ks_OPPOSITE => decide +kernel)
    (case kt_OPPOSITE => exact ⟨_, _, .str "-", _, rfl, ⟨_, rfl⟩, rfl, ⟨_, _, .str "x", _, rfl, ⟨_, rfl⟩, rfl, rfl⟩⟩)
    (case ka_OTHER => k_is)
    (case kl_OTHER => k_is)
    (case kk_OTHER => first | exact ⟨⟨_, _, rfl, rfl⟩, ⟨_, _, rfl, rfl⟩, trivial⟩ | (repeat' (first | exact trivial | refine ⟨⟨_, _, rfl, rfl⟩, ?_⟩)))
    (case ks_OTHER => decide +kernel)
    (case kt_OTHER => exact ⟨_, _, .str "-", _, rfl, ⟨_, rfl⟩, rfl, ⟨_, _, .str "x", _, rfl, ⟨_, rfl⟩, rfl, rfl⟩⟩)
