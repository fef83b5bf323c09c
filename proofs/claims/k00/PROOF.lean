import PyProof.Rows.All
import Wide.All
import OpenK.AllK
import Wide.FinOn
import HandS.ForMost
import HandS.ForExc
import HandS.Defaults
import HandS.RaiseMore
import HandS.TupAny
import HandS.ExcInit
import KE.KExcIs
import HandS.ExcValue
import HandS.HeadHook4
import HandS.Head2
import HandS.HeadEnd
import PySem.Challenge.RW_clamberhouse_k00_errors
set_option Elab.async false
set_option linter.all false
set_option maxRecDepth 100000
set_option maxHeartbeats 4000000
/-! Lay1: defs that are called where no repr is under way (the around's guards are told), their calls, the law's end. -/
namespace Cl
open PySem PySem.Spec
open PyProof.Rows hiding St
open L2

/-- a def's promise, for callers of whom it is known that no guard stands on the stack -/
structure FnG (P : Program) (w : World) (K : PySem.W.Frag) (mg : Str → Option Value)
    (base : Heap) (k : Nat) (f : Addr) (fd : FuncData) (ps : List Str) (sp : Sp) : Prop where
  size : ∀ {vs H Q E}, sp vs H Q E → vs.length = ps.length
  go : ∀ {A : Around} {fr : List Env} {s : Shared} {H : Hp} {args : Args}
    {us : List Value} {vs : List V} {Q : VK} {E : XK}, Room k A → A.guards = some [] →
    Env0 P w K mg base A fr s H → BindsTo s fd args (ps.zip us) → Vals vs us → sp vs H Q E →
    codeAny (model P w) A (.call (.ref f) args) (CR (L2.CX P w) fr P w H s Q E) s

theorem FnG.up {P : Program} {w : World} {K : PySem.W.Frag} {mg : Str → Option Value} {base : Heap}
    {j k : Nat} {f : Addr} {fd : FuncData} {ps : List Str} {sp : Sp}
    (F : FnG P w K mg base j f fd ps sp) (h : j ≤ k) : FnG P w K mg base k f fd ps sp :=
  ⟨F.size, fun hr => F.go (hr.mono h)⟩

/-- the def's own context: what its body runs in -/
abbrev Bd (P : Program) (w : World) (K : PySem.W.Frag) (mg : Str → Option Value) (base : Heap)
    (N : List Str) (qual : Str) (sc : Scope) (f : Addr) (cd : Value) (A : Around) (fr : List Env)
    (s : Shared) (H : Hp) (E : XK) : Cx :=
  cxOf (L2.CX P w) P w K mg base N qual sc f cd A fr s H E

/-- a def of the text st (no defaults) as it stands at f -/
abbrev FnAt (K : PySem.W.Frag) (x qual : Str) (st : Stmt) (f : Addr) (fd : FuncData) : Prop :=
  FunD K x qual (defArgs st) (defBody st) (defScope st) [] [] f fd

/-- a def by its body -/
theorem FnG.of {P : Program} {w : World} {K : PySem.W.Frag} {mg : Str → Option Value} {base : Heap}
    {x qual : Str} {ar : Arguments} {bd : List Stmt} {sc : Scope} {dv : List V} {kw : List (Str × V)}
    {f : Addr} {fd : FuncData} {N ps : List Str} {k : Nat} {sp : Sp}
    (F : FunD K x qual ar bd sc dv kw f fd) (S : FnScope N ps sc)
    (size : ∀ {vs H Q E}, sp vs H Q E → vs.length = ps.length)
    (body : ∀ (cd : Value) (A : Around) (fr : List Env) (s : Shared) (H : Hp) (vs : List V) (Q : VK) (E : XK),
      Room k (Bd P w K mg base N qual sc f cd A fr s H E).A →
      (Bd P w K mg base N qual sc f cd A fr s H E).A.guards = some [] → sp vs H Q E →
      ∃ t, PSs (Bd P w K mg base N qual sc f cd A fr s H E) bd t ∧
        t { nx := fun _ H' => Q .non H', rt := Q } (start N vs) H) :
    FnG P w K mg base (k + 1) f fd ps sp := by
  refine ⟨size, ?_⟩
  intro A fr s H args us vs Q E hr hgd e0 hb rel hsp
  obtain ⟨oc, od, dV, kV, doc, pm, an, cdv, ct, osl, rfl, lk, hcd, _, _⟩ := F.ex
  have lenv := size hsp
  have inK : K.In s.heap := e0.mod.kin.keeps fun b o q => (e0.bs b o q).1
  have noL : s.heap.NoLimit := e0.mod.nolimit.keeps fun b o q => (e0.bs b o q).1
  refine codeAny_call_function hr.depth (inK _ _ lk) rfl S.co S.gen rfl
    (PySem.W.codeRec_of inK hcd) (hb _ _ _ _ ?_)
  refine wpAny_newFunctionEnv_cells S.kind (fun y hy => ?_) fun env he s1 ic => ?_
  · obtain ⟨n, v⟩ := y
    cases S.par n (List.of_mem_zip hy).1 with
    | inl q => exact Or.inl q
    | inr q => exact Or.inr ⟨q, PySem.W.cellsFrom_some _ _ _ (Or.inl q)⟩
  subst he
  refine ⟨noL.keeps ic.toInCall.keep, codeAny_func ?_⟩
  obtain ⟨t, derive, reads⟩ := body cdv A fr s H vs Q E (hr.deeper _) hgd hsp
  have I0 := inv_start (CX := L2.CX P w) (E := E) (qual := qual) S hr.hd e0 lenv rel ic
  refine wpAny_mono (derive.run [] s1 _ H _ I0 reads) (fun fl s' out => ?_) fun _ _ z => z
  cases fl with
  | ret u =>
    obtain ⟨v, σ', H', J, rv, q⟩ := out
    exact ⟨v, H', J.os, J.bare, J.base, J.hok, rv, q⟩
  | next =>
    obtain ⟨σ', H', J, q⟩ := out
    exact ⟨V.non, H', J.os, J.bare, J.base, J.hok, rfl, q⟩
  | brk =>
    obtain ⟨_, _, _, q⟩ := out
    exact False.elim q
  | cont =>
    obtain ⟨_, _, _, q⟩ := out
    exact False.elim q

/-- a def that is a name of the module: where it stands, what it promises -/
structure Def (P : Program) (w : World) (K : PySem.W.Frag) (mg : Str → Option Value) (base : Heap)
    (x : Str) (k : Nat) (ps : List Str) (sp : Sp) : Prop where
  ex : ∃ (f : Addr) (fd : FuncData), FnG P w K mg base k f fd ps sp ∧ mg x = some (.ref f) ∧
    PySem.W.keepIn K (.ref f) = true ∧ Binds K fd ps []
theorem Def.up {P : Program} {w : World} {K : PySem.W.Frag} {mg : Str → Option Value} {base : Heap} {x : Str}
    {j k : Nat} {ps : List Str} {sp : Sp} (D : Def P w K mg base x j ps sp) (h : j ≤ k) : Def P w K mg base x k ps sp := by
  obtain ⟨f, fd, F, r⟩ := D.ex
  exact ⟨f, fd, F.up h, r⟩
/-- what of a def stands in the written part -/
structure Top (K : PySem.W.Frag) (mg : Str → Option Value) (x : Str) (st : Stmt) (ps : List Str) : Prop where
  ex : ∃ (f : Addr) (fd : FuncData), FnAt K x x st f fd ∧ mg x = some (.ref f) ∧ Binds K fd ps []
theorem Def.of {P : Program} {w : World} {K : PySem.W.Frag} {mg : Str → Option Value} {base : Heap}
    {x : Str} {st : Stmt} {N ps : List Str} {k : Nat} {sp : Sp}
    (T : Top K mg x st ps) (S : FnScope N ps (defScope st))
    (size : ∀ {vs H Q E}, sp vs H Q E → vs.length = ps.length)
    (body : ∀ (f : Addr) (cd : Value) (A : Around) (fr : List Env) (s : Shared) (H : Hp) (vs : List V) (Q : VK) (E : XK),
      Room k (Bd P w K mg base N x (defScope st) f cd A fr s H E).A →
      (Bd P w K mg base N x (defScope st) f cd A fr s H E).A.guards = some [] → sp vs H Q E →
      ∃ t, PSs (Bd P w K mg base N x (defScope st) f cd A fr s H E) (defBody st) t ∧
        t { nx := fun _ H' => Q .non H', rt := Q } (start N vs) H) :
    Def P w K mg base x (k + 1) ps sp := by
  obtain ⟨f, fd, F, hm, hb⟩ := T.ex
  exact ⟨f, fd, FnG.of F S size (body f), hm, F.kp, hb⟩

section
variable {X : Cx} {k : Nat} {f : Addr} {fd : FuncData} {ps : List Str} {sp : Sp} {E : St → XK}

/-- the callee runs -/
theorem runG {pins : List (Addr × Obj)} {σ : St} {H : Hp} {s : Shared} {Q : VK} {us : List Value} {vs : List V}
    (F : FnG X.prog X.w X.K X.mg X.base k f fd ps sp) (hr : Room k X.A) (hgd : X.A.guards = some [])
    (hb : Binds X.K fd ps []) (hx : PassesAt (L2.CX X.prog X.w) X σ (E σ))
    (I : Inv X pins σ H s) (r : Vals vs us) (h : sp vs H Q (E σ)) :
    wpAny (model X.prog X.w) X.A (call (.ref f) us) (EP X pins σ Q) X.xe s := by
  have hl : (us ++ []).length = ps.length := by
    rw [List.append_nil, ← r.length]
    exact F.size h
  have bt := hb s us I.kIn hl
  rw [List.append_nil] at bt
  refine wpAny_call (codeAny_mono (F.go hr hgd I.env0 bt r h) fun res s' out => ?_)
  match res, out with
  | .error e, out => exact hx pins H s e s' I out
  | .ok (.ret u), out => exact I.after out
  | .ok .next, out => exact False.elim out
  | .ok .brk, out => exact False.elim out
  | .ok .cont, out => exact False.elim out

variable {x : Str} {p pos : Pos} {e : Expr} {es : List Expr} {t : TA}
/-- f(e, ..) -/
theorem pe_g (F : FnG X.prog X.w X.K X.mg X.base k f fd ps sp) (hr : Room k X.A) (hgd : X.A.guards = some [])
    (hg : Gl X x) (hm : X.mg x = some (.ref f)) (hk : PySem.W.keepIn X.K (.ref f) = true) (hb : Binds X.K fd ps [])
    (hx : ∀ σ, PassesAt (L2.CX X.prog X.w) X σ (E σ)) (ha : PA X (e :: es) t)
    (hdb : (x == ("__debug__" : Str)) = false := by decide)
    (he : starEach (e :: es) X.env = (false, eval e X.env) :: starEach es X.env := by rfl)
    (hpl : (backTo pos (starEach es X.env)).any (·.1) = false := by rfl) :
    PE X (.Call (.Name x p) (e :: es) [] pos) (tCallS sp E t) := by
  constructor
  intro pins s σ H Q I h
  refine wpAny_Call_Name_kw (ld_glob I hg hm ?_ hdb)
  refine PySem.W.callWith_K (h₀ := X.base) I.ok.mod.kin hk (thn (ha.run pos pins s σ H _ I h) ?_) he hpl
  rintro us s1 ⟨vs, H1, I1, r, q⟩
  exact ⟨I1.kIn, runG F hr hgd hb (hx σ) I1 r q⟩
/-- f() -/
theorem pe_g0 (F : FnG X.prog X.w X.K X.mg X.base k f fd ps sp) (hr : Room k X.A) (hgd : X.A.guards = some [])
    (hg : Gl X x) (hm : X.mg x = some (.ref f)) (hk : PySem.W.keepIn X.K (.ref f) = true) (hb : Binds X.K fd ps [])
    (hx : ∀ σ, PassesAt (L2.CX X.prog X.w) X σ (E σ)) (hdb : (x == ("__debug__" : Str)) = false := by decide) :
    PE X (.Call (.Name x p) [] [] pos) (tCallS sp E tNil) := by
  constructor
  intro pins s σ H Q I h
  refine wpAny_Call_Name_kw (ld_glob I hg hm ?_ hdb)
  exact PySem.W.callWith_K0 I.kIn hk (runG (us := []) F hr hgd hb (hx σ) I .nil h)
end

section
variable {X : Cx} {k : Nat} {ps : List Str} {sp : Sp} {E : St → XK} {x : Str} {p pos : Pos} {e : Expr} {es : List Expr} {t : TA}
/-- f(e, ..), f a def of the module -/
theorem pe_d (D : Def X.prog X.w X.K X.mg X.base x k ps sp) (hr : Room k X.A) (hgd : X.A.guards = some [])
    (hg : Gl X x) (hx : ∀ σ, PassesAt (L2.CX X.prog X.w) X σ (E σ)) (ha : PA X (e :: es) t)
    (hdb : (x == ("__debug__" : Str)) = false := by decide)
    (he : starEach (e :: es) X.env = (false, eval e X.env) :: starEach es X.env := by rfl)
    (hpl : (backTo pos (starEach es X.env)).any (·.1) = false := by rfl) :
    PE X (.Call (.Name x p) (e :: es) [] pos) (tCallS sp E t) := by
  obtain ⟨f, fd, F, hm, hk, hb⟩ := D.ex
  exact pe_g F hr hgd hg hm hk hb hx ha hdb he hpl
end

/-- nothing that is raised leaves -/
abbrev Eno : St → XK := fun _ => E0
theorem passNo {X : Cx} (σ : St) : PassesAt (L2.CX X.prog X.w) X σ (Eno σ) := by
  intro pins H s e s' I c
  obtain ⟨_, _, _, _, _, _, _, _, _, _, _, _, z⟩ := c
  exact z.elim

/-- a def, a class of the module as a value; a built-in class as a value -/
theorem pe_gref {X : Cx} {x : Str} {a : Addr} {pos : Pos} (hg : Gl X x) (hm : X.mg x = some (.ref a)) (hd : (x == ("__debug__" : Str)) = false := by decide) : PE X (.Name x pos) (tC (.ref a)) :=
  pe_glob hg hm rfl hd
theorem pe_gty {X : Cx} {x : Str} {n : String} {pos : Pos} (hg : Gl X x) (hm : X.mg x = none) (hv : bootBuiltins x = some (.type n)) (hn : x ≠ "__name__" := by decide) (hd : (x == ("__debug__" : Str)) = false := by decide) :
    PE X (.Name x pos) (tC (.ty n)) := pe_bltn hg hm hv rfl hn hd

/-! ### a word between two statements -/
/-- first t, up to the word M; from there u -/
def tMid (t u : TS) : TS := fun D σ H => ∃ M : St → Hp → Prop, t ⟨M, D.rt, D.bk, D.ct⟩ σ H ∧ ∀ σ' H', M σ' H' → u D σ' H'
theorem pss_mid {X : Cx} {a : Stmt} {bs : List Stmt} {t u : TS} (ha : PS X a t) (hb : PSs X bs u) : PSs X (a :: bs) (tMid t u) := by
  constructor
  intro pins s σ H D I h
  obtain ⟨M, first, next⟩ := h
  refine wpAny_execs_cons (thn (ha.run pins s σ H _ I first) ?_)
  intro fl s1 q
  cases fl with
  | next =>
    obtain ⟨σ1, H1, I1, q1⟩ := q
    exact hb.run pins s1 σ1 H1 D I1 (next σ1 H1 q1)
  | ret v => exact q
  | brk => exact q
  | cont => exact q

/-! ### the law's end -/
/-- the script as the abstract heap at the law's entry bears it -/
def scriptH (K : PySem.W.Frag) (a : Addr) (vs : List Value) (ns : List Int) : Hp := fun b =>
  if b = a ∧ (K.lookup a).isSome = false then
    some (.frz { cls := .type "list", data := .seq vs.toArray } (.lst (ns.map V.int)))
  else none
theorem scriptH_or {K : PySem.W.Frag} {a b : Addr} {vs : List Value} {ns : List Int} :
    scriptH K a vs ns b = none ∨ (b = a ∧ K.lookup a = none ∧ scriptH K a vs ns b =
      some (.frz { cls := .type "list", data := .seq vs.toArray } (.lst (ns.map V.int)))) := by
  unfold scriptH
  by_cases c : b = a ∧ (K.lookup a).isSome = false
  · rw [if_pos c]
    refine Or.inr ⟨c.1, ?_, rfl⟩
    cases q : K.lookup a with
    | none => rfl
    | some o => rw [q] at c; exact absurd c.2 (by simp)
  · rw [if_neg c]
    exact Or.inl rfl

theorem law_g {P : Program} {w : World} {K : PySem.W.Frag} {mg mb : Str → Option Value} {k : Nat} {fa a : Addr}
    {fd : FuncData} {x : Str} {sp : Sp} {s₁ : Shared} {vs : List Value} {ns : List Int}
    (KX : K.In s₁.heap) (hns : s₁.heap.Ns mainGlobals mg) (hb : s₁.heap.Ns builtinsNs mb)
    (hbb : ∀ x : Str, x ≠ "__name__" → mb x = bootBuiltins x) (hlim : s₁.heap.NoLimit) (hg : s₁.gens = #[])
    (ha : s₁.heap.get? a = some { cls := .type "list", data := .seq vs.toArray }) (hi : IntsAre vs ns)
    (hl : ns.length ≤ sizeLine) (hr : Room k callerA)
    (F : ∀ base : Heap, K.In base → base.Ns mainGlobals mg → FnG P w K mg base k fa fd [x] sp)
    (hbind : ∀ (s : Shared) (u : Value), BindsTo s fd ⟨[u], []⟩ [(x, u)])
    (hsp : ∀ H : Hp, (∀ b xs, H b ≠ some (.tup xs)) → SqL K H a (ns.map V.int) →
      sp [.ref a] H (fun v _ => v = .bl true) fun _ _ _ => False) :
    codeAny (model P w) callerA (.call (.ref fa) ⟨[.ref a], []⟩)
      (fun r s' => r = .ok (.ret (.bool true)) ∧ OldK s₁.heap s'.heap ∧ s'.os = s₁.os ∧ AllBare s'.gens) s₁ := by
  have rv := vals_ints hi
  have lenV := hi.length
  generalize hH : scriptH K a vs ns = H
  have at_ : ∀ b, H b = none ∨ (b = a ∧ K.lookup a = none ∧ H b = some (.frz { cls := .type "list", data := .seq vs.toArray } (.lst (ns.map V.int)))) := by
    intro b
    rw [← hH]
    exact scriptH_or
  have free_of : ∀ {b : Addr} {o : Obj}, s₁.heap.get? b = some o → (∀ n, o.data ≠ .seq vs.toArray n) → H b = none := by
    intro b o e d
    rcases at_ b with z | ⟨rfl, _, _⟩
    · exact z
    · rw [ha] at e
      cases e
      exact absurd rfl (d _)
  have hokH : HOk P w H s₁.heap := by
    intro b u e
    rcases at_ b with z | ⟨rfl, _, z⟩
    · rw [z] at e
      cases e
    · rw [z] at e
      cases e
      exact ⟨ha, by rw [List.length_map]; exact hl, vs, _, rv, ha⟩
  have seqS : SqL K H a (ns.map V.int) := by
    cases hk : K.lookup a with
    | some o =>
      have e := KX a o hk
      rw [ha] at e
      cases e
      exact Or.inr ⟨_, vs.toArray, _, hk, rfl, rfl, rfl, by rw [List.size_toArray, lenV]; exact hl, rv⟩
    | none =>
      refine Or.inl (Or.inr ⟨{ cls := .type "list", data := .seq vs.toArray }, ?_⟩)
      rw [← hH]
      unfold scriptH
      rw [if_pos ⟨rfl, by rw [hk] <;> rfl⟩]
  have nsK : ∀ {b : Addr} {m : Str → Option Value}, s₁.heap.Ns b m → (hidT s₁.heap H).Ns b m := by
    rintro b m ⟨o, es, ep, e, d, r⟩
    exact ⟨o, es, ep, hidT_get e (free_of e fun n q => by rw [d] at q; cases q), d, r⟩
  have kinB : K.In (hidT s₁.heap H) := by
    intro b o e
    refine hidT_get (KX b o e) ?_
    rcases at_ b with z | ⟨rfl, q, _⟩
    · exact z
    · rw [q] at e
      cases e
  obtain ⟨mc, l1, l2⟩ := hlim
  have modB : Mod K mg (hidT s₁.heap H) := ⟨kinB, nsK hns, ⟨mb, nsK hb, hbb⟩, mc, nsK l1, l2⟩
  have e0 : Env0 P w K mg (hidT s₁.heap H) callerA [] s₁ H := by
    refine ⟨rfl, modB, fun b o e => of_hidT e, Nat.le_of_eq (hidT_size _ _), trivial, ?_, hokH, .of_eq hg⟩
    intro b hb'
    cases hb'
  have G := F (hidT s₁.heap H) kinB (nsK hns)
  refine codeAny_mono (G.go hr rfl e0 (us := [.ref a]) (vs := [.ref a]) (hbind s₁ (.ref a)) (.cons rfl .nil)
    (hsp H (fun b xs z => ?_) seqS)) fun res s' out => ?_
  · rcases at_ b with q | ⟨_, _, q⟩ <;> rw [q] at z <;> cases z
  match res, out with
  | .error e, out =>
    obtain ⟨_, _, _, _, _, _, _, _, _, _, _, _, z⟩ := out
    exact z.elim
  | .ok .next, out => exact False.elim out
  | .ok .brk, out => exact False.elim out
  | .ok .cont, out => exact False.elim out
  | .ok (.ret u), out =>
    obtain ⟨v, H', os, bare, un, hok', r', rfl⟩ := out
    obtain rfl : u = Value.bool true := r'
    refine ⟨rfl, OldK.of_keep fun b o e => ?_, os, bare⟩
    rcases at_ b with q | ⟨_, _, q⟩
    · exact un.keep b o e q (fun z => by cases z) (fun z => by cases z)
    · have z2 := un.frzs b _ _ q
      obtain ⟨e1, _⟩ := hokH b _ q
      obtain ⟨e2, _⟩ := hok' b _ z2
      rw [e] at e1
      cases e1
      exact e2

/-- the goal that the head leaves, from the law's promise -/
theorem walk_g {l : PySem.W.OpenLaw} {n k : Nat} {q : Program} {loose : List Str} {XP : (Str → Option Value) → Heap → Prop}
    {YP : World → Heap → Prop} {d : DefRec} {K : Params → PySem.W.Frag} {sp : PySem.W.Frag → Sp} {x : Str}
    (hn : l.most = some n) (hn2 : n ≤ sizeLine) (hdf : d.params.defaults = []) (hr : Room k callerA)
    (hY : ∀ (w : World) (h : Heap), YP w h → (K w.params).In h)
    (F : ∀ (w : World) (mg : Str → Option Value) (fa : Addr) (h : Heap), (K w.params).In h → h.Ns mainGlobals mg →
      mg d.name = some (.ref fa) →
      ∃ fd : FuncData, (∀ (s : Shared) (u : Value), BindsTo s fd ⟨[u], []⟩ [(x, u)]) ∧
        ∀ base : Heap, (K w.params).In base → base.Ns mainGlobals mg →
          FnG l.prog w (K w.params) mg base k fa fd [x] (sp (K w.params)))
    (hsp : ∀ (K : PySem.W.Frag) (H : Hp) (a : Addr) (ns : List Int), ns.length ≤ n → (∀ b xs, H b ≠ some (.tup xs)) →
      SqL K H a (ns.map V.int) → sp K [.ref a] H (fun v _ => v = .bl true) fun _ _ _ => False) :
    PySem.W.WalkO q loose XP YP l.row.toRowW d [] (fun f vs => PySem.call f vs) := by
  refine Att.attach_call hn hdf ?_
  intro w s₀ s₁ mg mb fa o pm cd doc a vs ns G Y ho hd hcd hmg hobj hints hlen hg
  have KX := hY w _ Y
  obtain ⟨fd, hb, hF⟩ := F w mg fa _ KX G.T.g hmg
  exact law_g KX G.T.g G.T.b G.T.builtins G.T.nolimit hg hobj hints (Nat.le_trans hlen hn2) hr hF hb
    fun H hN hS => hsp _ H a ns hlen hN hS
end Cl

/-! LayK: rules whose reading names the written part K, with K given (for blocks within a def). -/
namespace Cl
open PySem PySem.Spec
open PyProof.Rows hiding St
open L2
section
variable (K : PySem.W.Frag) {X : Cx}
theorem kSlT (h : X.K = K := by rfl) : SlR X (rSlA K) := by subst h; exact sl_tupA
theorem kSlL (h : X.K = K := by rfl) : SlR X (rSlL K) := by subst h; exact sl_list
theorem kIxL (h : X.K = K := by rfl) : IxR X (rIxL K) := by subst h; exact ix_list
theorem kIxT (h : X.K = K := by rfl) : IxR X (rIxT K) := by subst h; exact ix_tup
theorem kIx (h : X.K = K := by rfl) : IxR X (rIx K) := by subst h; exact ix_seq
theorem kIn (h : X.K = K := by rfl) : OpR X (compareOp .In) (rIn K false) := by subst h; exact op_in_seq
theorem kNotIn (h : X.K = K := by rfl) : OpR X (compareOp .NotIn) (rIn K true) := by subst h; exact op_notIn_seq
theorem kCatT (h : X.K = K := by rfl) : OpR X (binaryOp .Add) (rCatA K) := by subst h; exact op_catA
def rLenQ (K : PySem.W.Frag) : List V → Hp → VK → Prop := fun xs H Q => ∃ p ys, xs = [.ref p] ∧ (SqL K H p ys ∨ SqT K H p ys) ∧ Q (.int ys.length) H
theorem kLen (h : X.K = K := by rfl) : CallR X (.builtin "len") (rLenQ K) := by subst h; exact call_len_seq
def rListQ (K : PySem.W.Frag) : List V → Hp → VK → Prop := fun xs H Q => ∃ p ys, xs = [.ref p] ∧ (SqL K H p ys ∨ SqT K H p ys) ∧ ∀ l, H l = none → Q (.ref l) (upd H l (.lst ys))
theorem kList (h : X.K = K := by rfl) : CallR X (.type "list") (rListQ K) := by subst h; exact call_list_of
def rTupleQ (K : PySem.W.Frag) : List V → Hp → VK → Prop := fun xs H Q => ∃ p ys, xs = [.ref p] ∧ ((SqL K H p ys ∧ ∀ l, H l = none → Q (.ref l) (upd H l (.tup ys))) ∨ (SqT K H p ys ∧ Q (.ref p) H))
theorem kTuple (h : X.K = K := by rfl) : CallR X (.type "tuple") (rTupleQ K) := by subst h; exact call_tuple_of
theorem kSum (hc : X.calm = true) (h : X.K = K := by rfl) : CallR X (.builtin "sum") (rSum K) := by subst h; exact cr_sum hc
theorem kMax (hc : X.calm = true) (h : X.K = K := by rfl) : CallR X (.builtin "max") (L2.rMax K) := by subst h; exact cr_max hc
theorem kMin (hc : X.calm = true) (h : X.K = K := by rfl) : CallR X (.builtin "min") (L2.rMin K) := by subst h; exact cr_min hc
theorem kAll (hc : X.calm = true) (h : X.K = K := by rfl) : CallR X (.builtin "all") (L2.rAll K) := by subst h; exact cr_all hc
theorem kAny (hc : X.calm = true) (h : X.K = K := by rfl) : CallR X (.builtin "any") (L2.rAny K) := by subst h; exact cr_any hc
variable {e l o : Expr} {es : List Expr} {to tl : TE} {t : TA} {tg : Expr} {pos apos : Pos} {T name id : String} {r : V → List V → Hp → VK → Prop}
theorem kPiL (hl : PE X l tl) (h : X.K = K := by rfl) : PI X tg l (iList K tl) := by subst h; exact pi_list hl
theorem kPiT (hl : PE X l tl) (h : X.K = K := by rfl) : PI X tg l (iTup K tl) := by subst h; exact pi_tup hl
end
end Cl

/-! Lay2: data in the abstract heap (Dt), repr and == of it. -/
namespace Cl
open PySem PySem.Spec
open PyProof.Rows hiding St
open L2

/-- what stands for data: tuples, lists -/
def isDt : HO → Bool
  | .tup _ => true
  | .lst _ => true
  | _ => false
/-- all data objects stay -/
def Kd (H H' : Hp) : Prop := ∀ a o, isDt o = true → H a = some o → H' a = some o
/-- all tuples stay -/
def Tk (H H' : Hp) : Prop := ∀ a xs, H a = some (.tup xs) → H' a = some (.tup xs)
theorem Kd.refl (H : Hp) : Kd H H := fun _ _ _ h => h
theorem Kd.trans {H H1 H2 : Hp} (a : Kd H H1) (b : Kd H1 H2) : Kd H H2 := fun x o d h => b x o d (a x o d h)
theorem Tk.refl (H : Hp) : Tk H H := fun _ _ h => h
theorem Tk.trans {H H1 H2 : Hp} (a : Tk H H1) (b : Tk H1 H2) : Tk H H2 := fun x o h => b x o (a x o h)
theorem Kd.tk {H H' : Hp} (a : Kd H H') : Tk H H' := fun x xs h => a x _ rfl h
theorem kdOf {H H' : Hp} (e : Same H H') : Kd H H' := fun a o _ h => e a o h
theorem sameNew {H : Hp} {p : Addr} {o : HO} (h : H p = none) : Same H (upd H p o) := fun a u e => by
  rw [upd_ne (ne_of_none e h)]
  exact e
theorem kdNew {H : Hp} {p : Addr} {o : HO} (h : H p = none) : Kd H (upd H p o) := kdOf (sameNew h)
/-- another object than data is written -/
theorem kdMut {H : Hp} {p : Addr} {o u : HO} (h : H p = some u) (hu : isDt u = false) : Kd H (upd H p o) := fun a w d e => by
  have ne : a ≠ p := fun z => by
    rw [z, h] at e
    cases e
    rw [hu] at d
    cases d
  rw [upd_ne ne]
  exact e
/-- all but p stays -/
def But (p : Addr) (H H' : Hp) : Prop := ∀ b o, H b = some o → b ≠ p → H' b = some o
theorem But.kd {p : Addr} {H H' : Hp} {u : HO} (e : But p H H') (h : H p = some u) (hu : isDt u = false) : Kd H H' := fun a w d q =>
  e a w q fun z => by
    rw [z, h] at q
    cases q
    rw [hu] at d
    cases d
theorem But.refl (p : Addr) (H : Hp) : But p H H := fun _ _ h _ => h
theorem But.trans {p : Addr} {H H1 H2 : Hp} (a : But p H H1) (b : But p H1 H2) : But p H H2 := fun x o h n => b x o (a x o h n) n
theorem But.of {p : Addr} {H H' : Hp} (e : Same H H') : But p H H' := fun b o h _ => e b o h
theorem But.put {p : Addr} {H : Hp} {o : HO} : But p H (upd H p o) := fun b u h n => by
  rw [upd_ne n]
  exact h

mutual
/-- the value v is the datum d -/
inductive Dt (H : Hp) : V → PyData → Prop
  | non : Dt H .non .none
  | bl (b : Bool) : Dt H (.bl b) (.bool b)
  | int (i : Int) : Dt H (.int i) (.int i)
  | str (x : Str) : Dt H (.str x) (.str x)
  | tup {a : Addr} {xs : List V} {ds : List PyData} : H a = some (.tup xs) → DtAll H xs ds → Dt H (.ref a) (.tuple ds)
  | lst {a : Addr} {xs : List V} {ds : List PyData} : H a = some (.lst xs) → DtAll H xs ds → Dt H (.ref a) (.list ds)
inductive DtAll (H : Hp) : List V → List PyData → Prop
  | nil : DtAll H [] []
  | cons {v : V} {vs : List V} {d : PyData} {ds : List PyData} : Dt H v d → DtAll H vs ds → DtAll H (v :: vs) (d :: ds)
end
mutual
theorem Dt.mono {H H' : Hp} (k : Kd H H') : ∀ {d : PyData} {v : V}, Dt H v d → Dt H' v d
  | .none, _, h => by cases h; exact .non
  | .bool b, _, h => by cases h; exact .bl b
  | .int i, _, h => by cases h; exact .int i
  | .str x, _, h => by cases h; exact .str x
  | .tuple ds, _, h => by cases h with | tup e a => exact .tup (k _ _ rfl e) (DtAll.mono k a)
  | .list ds, _, h => by cases h with | lst e a => exact .lst (k _ _ rfl e) (DtAll.mono k a)
  | .dict _, _, h => by cases h
theorem DtAll.mono {H H' : Hp} (k : Kd H H') : ∀ {ds : List PyData} {vs : List V}, DtAll H vs ds → DtAll H' vs ds
  | [], _, h => by cases h; exact .nil
  | d :: ds, _, h => by cases h with | cons a b => exact .cons (Dt.mono k a) (DtAll.mono k b)
end
theorem DtAll.length {H : Hp} : ∀ {ds : List PyData} {vs : List V}, DtAll H vs ds → vs.length = ds.length
  | [], _, h => by cases h; rfl
  | d :: ds, _, h => by cases h with | cons a b => rw [List.length_cons, List.length_cons, b.length]
theorem DtAll.at {H : Hp} : ∀ {ds : List PyData} {vs : List V} {i : Nat} {v : V}, DtAll H vs ds → vs[i]? = some v → ∃ d, ds[i]? = some d ∧ Dt H v d
  | [], _, i, v, h, e => by cases h; simp at e
  | d :: ds, _, 0, v, h, e => by
    cases h with
    | cons a b =>
      simp at e
      subst e
      exact ⟨d, rfl, a⟩
  | d :: ds, _, i + 1, v, h, e => by
    cases h with
    | cons a b =>
      obtain ⟨d', e', h'⟩ := b.at (i := i) (v := v) (by simpa using e)
      exact ⟨d', by simpa using e', h'⟩
theorem DtAll.atD {H : Hp} : ∀ {ds : List PyData} {vs : List V} {i : Nat} {d : PyData}, DtAll H vs ds → ds[i]? = some d → ∃ v, vs[i]? = some v ∧ Dt H v d
  | [], _, i, v, h, e => by simp at e
  | d :: ds, _, 0, v, h, e => by
    cases h with
    | cons a b =>
      simp at e
      subst e
      exact ⟨_, rfl, a⟩
  | d :: ds, _, i + 1, v, h, e => by
    cases h with
    | cons a b =>
      obtain ⟨d', e', h'⟩ := b.atD (i := i) (d := v) (by simpa using e)
      exact ⟨d', by simpa using e', h'⟩
theorem DtAll.append {H : Hp} : ∀ {ds es : List PyData} {vs us : List V}, DtAll H vs ds → DtAll H us es → DtAll H (vs ++ us) (ds ++ es)
  | [], _, _, _, h, g => by cases h; exact g
  | d :: ds, _, _, _, h, g => by cases h with | cons a b => exact .cons a (b.append g)
theorem DtAll.drop {H : Hp} : ∀ {ds : List PyData} {vs : List V} (n : Nat), DtAll H vs ds → DtAll H (vs.drop n) (ds.drop n)
  | _, _, 0, h => h
  | [], _, n + 1, h => by cases h; exact .nil
  | d :: ds, _, n + 1, h => by cases h with | cons a b => exact b.drop n
theorem DtAll.take {H : Hp} : ∀ {ds : List PyData} {vs : List V} (n : Nat), DtAll H vs ds → DtAll H (vs.take n) (ds.take n)
  | _, _, 0, h => .nil
  | [], _, n + 1, h => by cases h; exact .nil
  | d :: ds, _, n + 1, h => by cases h with | cons a b => exact .cons a (b.take n)
theorem DtAll.cut {H : Hp} {ds : List PyData} {vs : List V} (h : DtAll H vs ds) (lo hi : Option Int) :
    DtAll H (cutV vs lo hi) ((ds.drop (HT.sIx ds.length 0 lo)).take (HT.sIx ds.length ds.length hi - HT.sIx ds.length 0 lo)) := by
  unfold cutV
  rw [h.length]
  exact (h.drop _).take _
theorem DtAll.ints {H : Hp} : ∀ ns : List Int, DtAll H (ns.map V.int) (ns.map PyData.int)
  | [] => .nil
  | n :: ns => .cons (.int n) (DtAll.ints ns)
theorem DtAll.intsV {H : Hp} : ∀ {ns : List Int} {vs : List V}, DtAll H vs (ns.map PyData.int) → vs = ns.map V.int
  | [], _, h => by cases h; rfl
  | n :: ns, _, h => by
    cases h with
    | cons a b =>
      cases a
      rw [b.intsV]
      rfl

section
variable {X : Cx} {pins : List (Addr × Obj)} {σ : St} {H : Hp} {s : Shared}
mutual
theorem Dt.reads (I : Inv X pins σ H s) : ∀ (d : PyData) (v : V) (u : Value), Dt H v d → RelV v u → ∃ as, Reads s.heap u d as
  | .none, _, _, h, r => by
    cases h; cases r
    exact ⟨_, Reads.none⟩
  | .bool b, _, _, h, r => by
    cases h; cases r
    exact ⟨_, Reads.bool b⟩
  | .int i, _, _, h, r => by
    cases h
    obtain ⟨t, rfl⟩ := r
    exact ⟨_, Reads.int i t⟩
  | .str x, _, _, h, r => by
    cases h
    obtain ⟨t, rfl⟩ := r
    exact ⟨_, Reads.str x t⟩
  | .list ds, _, _, h, r => by
    cases h with
    | lst e ha =>
      cases r
      obtain ⟨its, rv, ⟨o, n, ho, hc, _, hd⟩, _⟩ := I.list (SqL.of (K := X.K) e)
      obtain ⟨as, q⟩ := DtAll.reads I ds _ its ha rv
      exact ⟨_, Reads.list ho hc hd q⟩
  | .tuple ds, _, _, h, r => by
    cases h with
    | tup e ha =>
      cases r
      obtain ⟨its, rv, ⟨o, ho, hc, n, hd⟩, _⟩ := I.tuple (SqT.of (K := X.K) e)
      obtain ⟨as, q⟩ := DtAll.reads I ds _ its ha rv
      exact ⟨_, Reads.tuple ho hc hd q⟩
  | .dict _, _, _, h, _ => by cases h
theorem DtAll.reads (I : Inv X pins σ H s) : ∀ (ds : List PyData) (vs : List V) (us : List Value), DtAll H vs ds → Vals vs us → ∃ as, ReadsAll s.heap us ds as
  | [], _, _, h, r => by
    cases h; cases r
    exact ⟨_, ReadsAll.nil⟩
  | d :: ds, _, _, h, r => by
    cases h with
    | cons a b =>
      cases r with
      | cons r1 r2 =>
        obtain ⟨as, q1⟩ := Dt.reads I d _ _ a r1
        obtain ⟨bs, q2⟩ := DtAll.reads I ds _ _ b r2
        exact ⟨_, ReadsAll.cons q1 q2⟩
end
end

/-- data that may be told by repr: no dict, ints of at most 200 signs, not too much of it -/
structure Tells (d : PyData) : Prop where
  sh : d.showable = true
  nd : d.hasDict = false
  lv : d.leavesShort 200 = true
  wt : d.weight ≤ 80000
  dp : d.depth ≤ 40
theorem Tells.fits {d : PyData} (t : Tells d) : d.shown.length ≤ sizeLine := by
  have h := PyData.shown_le 200 (by decide) d t.lv
  have w := t.wt
  have e : sizeLine = 16777216 := sizeLine_eq
  rw [e]
  omega
section
variable {X : Cx}
def rRepr : List V → Hp → VK → Prop := fun xs H Q => ∃ v d, xs = [v] ∧ Dt H v d ∧ Tells d ∧ Q (.str d.shown) H
theorem call_repr (hgd : X.A.guards = some []) (hu : X.A.units + 64 < cLine) : CallR X (.builtin "repr") rRepr := by
  intro pins s σ H xs us Q I r h
  obtain ⟨v, d, rfl, hd, t, q⟩ := h
  obtain ⟨u, rfl, ru⟩ := vals1 r
  cases hd with
  | non =>
    cases ru
    exact PySem.P.repr_of_none ⟨.str _, H, I.tok _, ⟨_, rfl⟩, q⟩
  | bl b =>
    cases ru
    exact PySem.P.repr_of_bool ⟨.str _, H, I.tok _, ⟨_, rfl⟩, q⟩
  | int i =>
    obtain ⟨tk, rfl⟩ := ru
    have z : i.natAbs.log2 < 1920 := by
      have := t.sh
      simpa [PyData.showable] using this
    exact PySem.P.repr_of_int z ⟨.str _, H, I.tok _, ⟨_, rfl⟩, q⟩
  | str x =>
    obtain ⟨tk, rfl⟩ := ru
    have z : (reprText x).length ≤ sizeLine := t.fits
    exact PySem.P.repr_of_str ⟨.str _, H, I.tok _, ⟨_, rfl⟩, q⟩ z
  | tup e ha =>
    rename_i a ys ds
    obtain ⟨as, hr⟩ := Dt.reads I _ _ _ (Dt.tup e ha) ru
    cases ru
    have dp := t.dp
    exact repr_of_reads' hr t.sh (PyData.noDict_hsm t.nd) hgd (by omega) (fun _ _ q => q)
      (fun h' u tk k => ⟨.str _, H, I.kept (t' := tk) k, ⟨u, rfl⟩, q⟩) t.fits
  | lst e ha =>
    rename_i a ys ds
    obtain ⟨as, hr⟩ := Dt.reads I _ _ _ (Dt.lst e ha) ru
    cases ru
    have dp := t.dp
    exact repr_of_reads' hr t.sh (PyData.noDict_hsm t.nd) hgd (by omega) (fun _ _ q => q)
      (fun h' u tk k => ⟨.str _, H, I.kept (t' := tk) k, ⟨u, rfl⟩, q⟩) t.fits
def rEqT (neg : Bool) : R2 := fun x y H Q => ∃ d e, Dt H x d ∧ Dt H y e ∧ SeqAt.shaped d = true ∧ SeqAt.shaped e = true ∧
  Q (.bl (if neg then !PyData.eqv d e else PyData.eqv d e)) H
theorem op_eqT (hu : X.A.units + 64 < cLine) : OpR X (compareOp .Eq) (rEqT false) := by
  intro pins s σ H x y v u Q I rx ry h
  obtain ⟨d, e, hd, he, sd, se, q⟩ := h
  obtain ⟨as, r1⟩ := Dt.reads I d x v hd rx
  obtain ⟨bs, r2⟩ := Dt.reads I e y u he ry
  exact SeqAt.compareEq_shaped r1 r2 sd se hu ⟨.bl _, H, I, rfl, q⟩
theorem op_neT (hu : X.A.units + 64 < cLine) : OpR X (compareOp .NotEq) (rEqT true) := by
  intro pins s σ H x y v u Q I rx ry h
  obtain ⟨d, e, hd, he, sd, se, q⟩ := h
  obtain ⟨as, r1⟩ := Dt.reads I d x v hd rx
  obtain ⟨bs, r2⟩ := Dt.reads I e y u he ry
  exact SeqAt.compareNe_shaped r1 r2 sd se hu ⟨.bl _, H, I, rfl, q⟩
end
end Cl

/-! Lay3: the pen, the source of all draws. -/
namespace Cl
open PySem PySem.Spec
open PyProof.Rows hiding St
open L2

theorem bt_len : bootBuiltins "len" = some (.builtin "len") := by decide +kernel
theorem bt_repr : bootBuiltins "repr" = some (.builtin "repr") := by decide +kernel
theorem bt_isinstance : bootBuiltins "isinstance" = some (.builtin "isinstance") := by decide +kernel
theorem bt_int : bootBuiltins "int" = some (.type "int") := by decide +kernel
theorem bt_list : bootBuiltins "list" = some (.type "list") := by decide +kernel
theorem bt_tuple : bootBuiltins "tuple" = some (.type "tuple") := by decide +kernel
theorem bt_dict : bootBuiltins "dict" = some (.type "dict") := by decide +kernel
theorem bt_sorted : bootBuiltins "sorted" = some (.builtin "sorted") := by decide +kernel
theorem bt_all : bootBuiltins "all" = some (.builtin "all") := by decide +kernel
theorem bt_any : bootBuiltins "any" = some (.builtin "any") := by decide +kernel
theorem bt_max : bootBuiltins "max" = some (.builtin "max") := by decide +kernel
theorem bt_min : bootBuiltins "min" = some (.builtin "min") := by decide +kernel
theorem bt_sum : bootBuiltins "sum" = some (.builtin "sum") := by decide +kernel
theorem bt_ValueError : bootBuiltins "ValueError" = some (.type "ValueError") := by decide +kernel
theorem bt_str : bootBuiltins "str" = some (.type "str") := by decide +kernel
theorem bt_bool : bootBuiltins "bool" = some (.type "bool") := by decide +kernel
theorem bt_abs : bootBuiltins "abs" = some (.builtin "abs") := by decide +kernel
theorem bt_set : bootBuiltins "set" = some (.type "set") := by decide +kernel

/-- the pen's pairs -/
def penK (c : Addr) (i dg ct fo : Int) : List (Key × V) :=
  [(Sum.inr "cells", .ref c), (Sum.inr "at", .int i), (Sum.inr "digits", .int dg), (Sum.inr "count", .int ct), (Sum.inr "fold", .int fo)]
section
variable {c : Addr} {i dg ct fo y : Int}
theorem pen_merge : mergeK [] (penK c i dg ct fo) = penK c i dg ct fo := by rfl
theorem pen_cells : valV (penK c i dg ct fo) (Sum.inr "cells") = some (.ref c) := by rfl
theorem pen_at : valV (penK c i dg ct fo) (Sum.inr "at") = some (.int i) := by rfl
theorem pen_digits : valV (penK c i dg ct fo) (Sum.inr "digits") = some (.int dg) := by rfl
theorem pen_count : valV (penK c i dg ct fo) (Sum.inr "count") = some (.int ct) := by rfl
theorem pen_fold : valV (penK c i dg ct fo) (Sum.inr "fold") = some (.int fo) := by rfl
theorem pen_put_at : putK (penK c i dg ct fo) (Sum.inr "at") (.int y) = penK c y dg ct fo := by rfl
theorem pen_put_digits : putK (penK c i dg ct fo) (Sum.inr "digits") (.int y) = penK c i y ct fo := by rfl
theorem pen_put_count : putK (penK c i dg ct fo) (Sum.inr "count") (.int y) = penK c i dg y fo := by rfl
theorem pen_put_fold : putK (penK c i dg ct fo) (Sum.inr "fold") (.int y) = penK c i dg ct y := by rfl
end
/-- at p stands a pen that has drawn at most n times -/
def Pen (H : Hp) (p : Addr) (n : Nat) : Prop := ∃ (c : Addr) (i dg ct fo : Int) (ns : List Int),
  H p = some (.dK (penK c i dg ct fo)) ∧ H c = some (.lst (ns.map V.int)) ∧ 0 ≤ i ∧ i ≤ (ns.length : Int) ∧ ns.length ≤ 63 ∧
  0 ≤ dg ∧ 0 ≤ ct ∧ ct ≤ (n : Int) ∧ 0 ≤ fo ∧ fo < 4294967296
theorem Pen.le {H : Hp} {p : Addr} {n m : Nat} (h : Pen H p n) (l : n ≤ m) : Pen H p m := by
  obtain ⟨c, i, dg, ct, fo, ns, h1, h2, h3, h4, h5, h6, h7, h8, h9⟩ := h
  exact ⟨c, i, dg, ct, fo, ns, h1, h2, h3, h4, h5, h6, h7, by omega, h9⟩
theorem Pen.same {H H' : Hp} {p : Addr} {n : Nat} (h : Pen H p n) (e : Same H H') : Pen H' p n := by
  obtain ⟨c, i, dg, ct, fo, ns, h1, h2, r⟩ := h
  exact ⟨c, i, dg, ct, fo, ns, e _ _ h1, e _ _ h2, r⟩
theorem Pen.at {H : Hp} {p : Addr} {n : Nat} (h : Pen H p n) : ∃ u, H p = some u ∧ isDt u = false := by
  obtain ⟨c, i, dg, ct, fo, ns, h1, _⟩ := h
  exact ⟨_, h1, rfl⟩
theorem Pen.kd {H H' : Hp} {p : Addr} {n : Nat} (h : Pen H p n) (e : But p H H') : Kd H H' := by
  obtain ⟨u, h1, h2⟩ := h.at
  exact e.kd h1 h2
/-- the number of draws that all laws stay below -/
def penMax : Nat := 1000000000000
/-- the promise of a def that makes the pen -/
def spPen (K : PySem.W.Frag) : Sp := fun vs H Q _ => ∃ (a : Addr) (ns : List Int), vs = [.ref a] ∧ SqL K H a (ns.map V.int) ∧ ns.length ≤ 63 ∧
  ∀ (p : Addr) (H' : Hp), Same H H' → H p = none → Pen H' p 0 → Q (.ref p) H'
/-- .. that draws a number -/
def spDraw : Sp := fun vs H Q _ => ∃ (p : Addr) (n : Nat) (m : Int), vs = [.ref p, .int m] ∧ Pen H p n ∧ n < penMax ∧ 0 < m ∧ m < 1000000000 ∧
  ∀ (r : Int) (H' : Hp), 0 ≤ r → r < m → But p H H' → Pen H' p (n + 1) → Q (.int r) H'
/-- .. that draws an item of a list or a tuple -/
def spPick : Sp := fun vs H Q _ => ∃ (p l : Addr) (n : Nat) (xs : List V), vs = [.ref p, .ref l] ∧ Pen H p n ∧ n < penMax ∧ (H l = some (.lst xs) ∨ H l = some (.tup xs)) ∧
  0 < xs.length ∧ xs.length ≤ 1000000 ∧ ∀ (x : V) (H' : Hp), x ∈ xs → But p H H' → Pen H' p (n + 1) → Q x H'
end Cl

/-! Lay4: exceptions of own classes over ValueError as values: made, read, asked by isinstance. -/
namespace Cl
open PySem PySem.Spec
open PyProof.Rows hiding St
open L2

/-- what the written part says of such a class -/
structure EC (K : PySem.W.Frag) (C : Addr) : Prop where
  oe : OexC K C
  cl : (PySem.W.clsIn K C).isSome = true
  hd : PySem.W.hasDictIn K C = true
  ga : PySem.W.findIn K (.ref C) "__getattribute__" = some (some (.builtin "BaseException.__getattribute__"))
  gg : PySem.W.findIn K (.ref C) "__getattr__" = some none
  ha : PySem.W.findIn K (.ref C) "__class__" = some (some (.builtin "object.__class__"))
  sg : PySem.W.specialIn K (.builtin "object.__class__") "__get__" = some (some (.builtin "getset_descriptor.__get__"))
  tk : PySem.W.takesIn K (.builtin "object.__class__") = some true
  hm : PySem.W.mroIn K C (.type "object") = some true
def ecObj (K : PySem.W.Frag) (C : Addr) : Bool := match K.lookup C with
  | some ⟨.type "type", _, .cls cd, sl⟩ => (match cd.mro, sl.toList with
    | .ref C' :: bm, [_, _, _, _, some (.builtin n), _] => C' == C && (n == "ValueError.__new__" && (!cd.hasDel && (cd.hasDict && PySem.HandSPX.refsVE bm)))
    | _, _ => false)
  | _ => false
def ecB (K : PySem.W.Frag) (C : Addr) : Bool :=
  ecObj K C && (decide (PySem.W.findIn K (.ref C) "__setattr__" = some (some (.builtin "object.__setattr__"))) &&
  (decide (PySem.W.subIn K (.ref C) (.type "BaseException") = some true) && (decide (PySem.W.typeIn K (.ref C) = some (.type "type")) &&
  (PySem.W.keepIn K (.ref C) && ((PySem.W.clsIn K C).isSome && (PySem.W.hasDictIn K C &&
  (decide (PySem.W.findIn K (.ref C) "__getattribute__" = some (some (.builtin "BaseException.__getattribute__"))) &&
  (decide (PySem.W.findIn K (.ref C) "__getattr__" = some none) && (decide (PySem.W.findIn K (.ref C) "__class__" = some (some (.builtin "object.__class__"))) &&
  (decide (PySem.W.specialIn K (.builtin "object.__class__") "__get__" = some (some (.builtin "getset_descriptor.__get__"))) &&
  (decide (PySem.W.takesIn K (.builtin "object.__class__") = some true) && decide (PySem.W.mroIn K C (.type "object") = some true))))))))))))
theorem ecObj_ok {K : PySem.W.Frag} {C : Addr} (e : ecObj K C = true) :
    ∃ nm q N bs bm sn sub ab col dd k0 k1 k2 k3 k5, K.lookup C = some (excClassObj nm q C N bs bm true sn sub ab col dd k0 k1 k2 k3 k5 "ValueError.__new__") ∧ PySem.HandSPX.refsVE bm = true := by
  unfold ecObj at e
  split at e
  · rename_i dd cd sl ho
    split at e
    · rename_i C' bm k0 k1 k2 k3 n k5 hm hs
      simp only [Bool.and_eq_true, beq_iff_eq, Bool.not_eq_true'] at e
      obtain ⟨c1, c2, c3, c4, c5⟩ := e
      subst c1 c2
      obtain ⟨nm, bs, mro, ns, qn, hd, sn, sub, ab, col, del⟩ := cd
      obtain ⟨sl⟩ := sl
      dsimp only at hm hs c3 c4
      subst hm hs c3 c4
      exact ⟨nm, qn, ns, bs, bm, sn, sub, ab, col, dd, k0, k1, k2, k3, k5, ho, c5⟩
    · cases e
  · cases e
theorem ecB_ok {K : PySem.W.Frag} {C : Addr} (e : ecB K C = true) : EC K C := by
  unfold ecB at e
  simp only [Bool.and_eq_true, decide_eq_true_eq] at e
  obtain ⟨e1, e2, e3, e4, e5, e6, e7, e8, e9, e10, e11, e12, e13⟩ := e
  exact ⟨⟨ecObj_ok e1, e2, e3, e4, e5⟩, e6, e7, e8, e9, e10, e11, e12, e13⟩

/-- at a an exception of the class at C, its fields fs (the last one first) -/
def ExAt (H : Hp) (a C : Addr) (fs : List (Str × V)) : Prop := ∃ d, d ≠ a ∧ H a = some (exo a C (some d)) ∧ H d = some (exd d fs)
/-- the promise of an __init__ that stores its arguments as fields -/
def spI (K : PySem.W.Frag) (names : List Str) : Sp := fun vs H Q _ => ∃ (a C : Addr) (ws : List V), vs = .ref a :: ws ∧ ws.length = names.length ∧ EC K C ∧
  (∀ f ∈ names, PySem.W.findIn K (.ref C) f = some none) ∧ H a = some (exo a C none) ∧
  ∀ (d : Addr) (H' : Hp), H d = none → d ≠ a → H' a = some (exo a C (some d)) → H' d = some (exd d (names.zip ws).reverse) → (∀ b, b ≠ a → b ≠ d → H' b = H b) → Q .non H'

/-- a class with such an __init__ -/
structure EMk (P : Program) (w : World) (K : PySem.W.Frag) (mg : Str → Option Value) (base : Heap) (x : Str) (k : Nat) (names ps : List Str) (C : Addr) : Prop where
  nm : mg x = some (.ref C)
  ec : EC K C
  no : ∀ f ∈ names, PySem.W.findIn K (.ref C) f = some none
  len : ps.length = names.length + 1
  ini : ∃ (fI : Addr) (fd : FuncData), PySem.W.findIn K (.ref C) "__init__" = some (some (.ref fI)) ∧ PySem.W.typeIn K (.ref fI) = some (.type "function") ∧
    FnG P w K mg base k fI fd ps (spI K names) ∧ Binds K fd ps []
/-- C(e, ..): all that stood stands, at a new place the exception -/
def tMkE (C : Addr) (names : List Str) (ta : TA) : TE := fun σ H Q => ta σ H fun vs H1 => vs.length = names.length ∧ vs.length ≤ 1000 ∧
  ∀ (a : Addr) (H2 : Hp), H1 a = none → Same H1 H2 → ExAt H2 a C (names.zip vs).reverse → Q (.ref a) H2
theorem under_guards {A : Around} {C : Addr} {us : List Value} {kw : List (Str × Value)} : (A.under (.builtin "type.__call__" ⟨.ref C :: us, kw⟩)).guards = A.guards := by
  have e : (Code.builtin "type.__call__" ⟨.ref C :: us, kw⟩).guards = [] := by
    unfold Code.guards Code.isGuard
    rw [if_neg (show ¬ (guardIds.contains "type.__call__" = true) by decide +kernel)]
  show pushGuards (Code.builtin "type.__call__" ⟨.ref C :: us, kw⟩).guards A.guards = A.guards
  rw [e]
  rfl
/-- a new object, new by the heap's own look -/
theorem laidN {X : Cx} {pins : List (Addr × Obj)} {σ : St} {H : Hp} {s : Shared} {h' : Heap} {a : Addr} {o : HO} {t' : Nat} (I : Inv X pins σ H s) (k : ∀ b u, s.heap.get? b = some u → h'.get? b = some u)
    (hp : s.heap.get? a = none) (hn : H a = none) (new : ObjOk X.prog X.w (upd H a o) h' a o) : Inv X pins σ (upd H a o) { s with heap := h', toks := t' } := I.laidN k hp hn new
section
variable {X : Cx} {k : Nat} {names ps : List Str} {C : Addr} {x : Str} {e : Expr} {es : List Expr} {ta : TA} {p pos : Pos}
theorem pe_mkE (M : EMk X.prog X.w X.K X.mg X.base x k names ps C) (hr : Room (k + 1) X.A) (hgd : X.A.guards = some []) (hg : Gl X x) (ha : PA X (e :: es) ta)
    (hdb : (x == ("__debug__" : Str)) = false := by decide) (he : starEach (e :: es) X.env = (false, eval e X.env) :: starEach es X.env := by rfl) (hpl : (backTo pos (starEach es X.env)).any (·.1) = false := by rfl) :
    PE X (.Call (.Name x p) (e :: es) [] pos) (tMkE C names ta) := by
  constructor
  intro pins s σ H Q I h
  obtain ⟨fI, fd, iC, tI, F, hb⟩ := M.ini
  obtain ⟨nm, q, N, bs, bm, sn, sub, ab, col, dd, k0, k1, k2, k3, k5, hC, hbm⟩ := M.ec.oe.cls
  refine wpAny_Call_Name_kw (ld_glob I hg M.nm ?_ hdb)
  refine PySem.W.callWith_K (h₀ := X.base) I.ok.mod.kin M.ec.oe.kC (thn (ha.run pos pins s σ H _ I h) ?_) he hpl
  rintro us s1 ⟨vs, H1, I1, r1, ln, lz, q1⟩
  refine ⟨I1.kIn, ?_⟩
  show wpAny _ _ (call (.ref C) us) _ _ _
  obtain ⟨hp, g, dr, tk, os⟩ := s1
  have hn : H1 (hp.objs.size + 1) = none := I1.hok.fresh (Nat.le_succ _)
  have hget : ((hp.push (PySem.W.kdv_tup us)).push (PySem.HandSPX.excO C hp.objs.size)).get? (hp.objs.size + 1) = some (PySem.HandSPX.excO C hp.objs.size) := by heap_get
  have I2 : Inv X pins σ (upd H1 (hp.objs.size + 1) (exo (hp.objs.size + 1) C none)) ⟨(hp.push (PySem.W.kdv_tup us)).push (PySem.HandSPX.excO C hp.objs.size), g, dr, tk, os⟩ :=
    I1.laid (t' := tk) (fun b o z => Heap.get?_push_of_some _ (Heap.get?_push_of_some _ z)) (Nat.le_succ _) (exo_ok hget)
  generalize ea : hp.objs.size + 1 = a at hn hget I2
  have r2 : Vals (V.ref a :: vs) (Value.ref a :: us) := .cons rfl r1
  have hl : (Value.ref a :: us ++ []).length = ps.length := by
    rw [List.append_nil, List.length_cons, M.len, ← Paired.length r1, ln]
  have bt := hb _ (Value.ref a :: us) I2.kIn hl
  rw [List.append_nil] at bt
  have hus : us.length ≤ sizeLine := by
    rw [← Paired.length r1, sizeLine_eq]
    omega
  have hq : spI X.K names (.ref a :: vs) (upd H1 a (exo a C none)) (fun v H2 => v = .non ∧ Q (.ref a) H2) E0 := by
    refine ⟨a, C, vs, rfl, ln, M.ec, M.no, upd_same, fun d H' hd nda h1 h2 h3 => ⟨rfl, q1 a H' hn (fun b o z => ?_) ⟨d, nda, h1, h2⟩⟩⟩
    have hd' : H1 d = none := by rw [upd_ne nda] at hd; exact hd
    rw [h3 b (ne_of_none z hn) (ne_of_none z hd'), upd_ne (ne_of_none z hn)]
    exact z
  subst ea
  refine wpAny_call (PySem.HandSPX.call_own PySem.F.excBase_ValueError (fun Y => PySem.HandSPX.refsVE_contains Y bm hbm) (I1.kIn _ _ hC)
    (PySem.W.looks_findIn I1.kIn iC) (fun self => PySem.W.bind_fn I1.kIn self tI) hus
    (codeAny_mono (F.go (hr.make C us []) (under_guards.trans hgd) (I2.env0.make C us []) bt r2 hq) fun r s' out => ?_))
  match r, out with
  | .error er, out => exact passNo σ pins _ _ er s' I2 out
  | .ok (.ret u), out =>
    obtain ⟨v, H', I3, rv, ev, q3⟩ := I2.after out
    subst ev
    exact ⟨rv, V.ref (hp.objs.size + 1), H', I3, rfl, q3⟩
  | .ok .next, out => exact False.elim out
  | .ok .brk, out => exact False.elim out
  | .ok .cont, out => exact False.elim out
/-- C(), C without an own __init__ -/
theorem pe_mkE0 {C : Addr} {x : Str} {p pos : Pos} (hm : X.mg x = some (.ref C)) (ec : EC X.K C) (q : PySem.W.excIn X.K C He.veBase "ValueError.__new__" = true) (hg : Gl X x) (hdb : (x == ("__debug__" : Str)) = false := by decide) :
    PE X (.Call (.Name x p) [] [] pos) (fun _ H Q => ∀ (a : Addr), H a = none → Q (.ref a) (upd H a (exo a C none))) := by
  constructor
  intro pins s σ H Q I h
  refine wpAny_Call_Name_kw (ld_glob I hg hm ?_ hdb)
  refine PySem.W.callWith_K0 I.kIn ec.oe.kC ?_
  show wpAny _ _ (call (.ref C) []) _ _ _
  obtain ⟨bm, N, nm, qn, bs, hdct, sn, sub, ab, col, dd, k0, k1, k2, k3, k5, mN, hC, hN, hni, T⟩ := exc_obj I.kIn q
  refine wpAny_call_exc_subT PySem.F.excBase_ValueError T hC hN hni (fun h' a hm => ?_) (Nat.zero_le _)
  obtain ⟨t, ht, _, _⟩ := hm.there
  have hn : H a = none := I.hok.gone hm.new
  exact ⟨.ref a, upd H a (exo a C none), Cl.laidN I hm.keeps hm.new hn (exo_ok ht), rfl, h a hn⟩
/-- e.f of such an exception -/
def tXfld (K : PySem.W.Frag) (f : Str) (te : TE) : TE := fun σ H Q => te σ H fun x H1 => ∃ (a C : Addr) (fs : List (Str × V)) (v : V), x = .ref a ∧ ExAt H1 a C fs ∧ EC K C ∧ PySem.W.findIn K (.ref C) f = some none ∧ fs.lookup f = some v ∧ Q v H1
theorem pe_xfld {e : Expr} {te : TE} {pos : Pos} {n : Str} (he : PE X e te) (hb : attributeBase e n X.env (eval e X.env) = eval e X.env := by rfl) : PE X (.Attribute e n pos) (tXfld X.K n te) := by
  constructor
  intro pins s σ H Q I h
  refine attr_of hb (thn (he.run pins s σ H _ I h) ?_)
  rintro u s1 ⟨x, H1, I1, rx, a, C, fs, v, rfl, ⟨d, nda, ha, hd⟩, ec, hno, hl, q⟩
  obtain rfl : u = Value.ref a := rx
  obtain ⟨t1, ho⟩ := exo_at I1.hok ha
  obtain ⟨mA, hns, hr⟩ := exd_at I1.hok hd
  obtain ⟨od, hod, look⟩ := lookIn_ns hns
  obtain ⟨w, hw, rw'⟩ := RelO.some_of (v := v) (o := mA n) (by rw [← hl]; exact hr n)
  have J : PySem.W.InstAt s1.heap a { cls := .ref C, dict := some d, data := .fields #[.ref t1, .none, .none, .none, .bool false, .none] } C (some od) := ⟨ho, rfl, rfl, hod⟩
  exact HandSPX.exc_get I1.kIn J ec.ga ec.gg ec.oe.exC (PySem.W.findObj_own ec.hd hno rfl (by rw [look, hw])) (handed_of rw') ⟨v, H1, I1.tok _, rw', q⟩
/-- isinstance(e, c) of such an exception -/
def rIsX (K : PySem.W.Frag) : List V → Hp → VK → Prop := fun xs H Q => ∃ (a C : Addr) (d : Option Addr) (c : V) (cv : Value) (b : Bool), xs = [.ref a, c] ∧ H a = some (exo a C d) ∧ (∀ d', d = some d' → ∃ fs, H d' = some (exd d' fs)) ∧ EC K C ∧
  (∀ u, RelV c u → u = cv) ∧ PySem.W.kitOne K (.ref C) cv = some b ∧ Q (.bl b) H
theorem call_isX : CallR X (.builtin "isinstance") (rIsX X.K) := by
  intro pins s σ H xs us Q I r h
  obtain ⟨a, C, d, c, cv, b, rfl, ha, hdx, ec, hcv, e, q⟩ := h
  obtain ⟨u1, u2, rfl, ru, rt⟩ := vals2 r
  cases ru
  have ec2 := hcv _ rt
  subst ec2
  obtain ⟨t1, ho⟩ := exo_at I.hok ha
  have J : ∃ od, PySem.W.InstAt s.heap a { cls := .ref C, dict := d, data := .fields #[.ref t1, .none, .none, .none, .bool false, .none] } C od := by
    cases d with
    | none => exact ⟨none, ho, rfl, rfl, trivial⟩
    | some d' =>
      obtain ⟨fs, hd⟩ := hdx d' rfl
      obtain ⟨mA, ⟨od, es, ep, hod, _⟩, hr⟩ := exd_at I.hok hd
      exact ⟨some od, ho, rfl, rfl, hod⟩
  obtain ⟨od, J⟩ := J
  exact PySem.W.kia_one (PySem.W.kitx_exc ec.cl ec.ga ec.gg ec.oe.exC ec.ha ec.sg ec.tk ec.hm) I.kIn J e (fun z => nomatch z)
    fun tk => ⟨.bl b, H, I.kept (t' := tk) fun _ _ z => z, rfl, q⟩
end

/-! ### an __init__ of one, two, three fields -/
section
variable {K : PySem.W.Frag} {f1 f2 f3 : Str}
theorem exo_ne_exd {a C d : Addr} {o : Option Addr} {fs : List (Str × V)} {H : Hp} (h1 : H a = some (exo a C o)) (h2 : H d = none) : d ≠ a := fun z => by rw [z, h1] at h2; cases h2
theorem ini1 {vs : List V} {H : Hp} {Q : VK} {E : XK} (h : spI K [f1] vs H Q E) :
    tOst K f1 (tVar 0) (tVar 1) { nx := fun _ H' => Q .non H', rt := Q } (start ["self", f1] vs) H := by
  obtain ⟨a, C, ws, rfl, hl, ec, no, ha, k⟩ := h
  match ws, hl with
  | [v1], _ =>
    refine ⟨_, rfl, _, rfl, a, C, rfl, ec.oe, no f1 (by simp), Or.inl ⟨ha, fun d hd nda => ?_⟩⟩
    refine k d _ hd nda upd_same (by rw [upd_ne nda, upd_same]; rfl) fun b h1 h2 => by rw [upd_ne h1, upd_ne h2]
theorem ini2 {vs : List V} {H : Hp} {Q : VK} {E : XK} (h : spI K [f1, f2] vs H Q E) :
    tSeq (tOst K f1 (tVar 0) (tVar 1)) (tOst K f2 (tVar 0) (tVar 2)) { nx := fun _ H' => Q .non H', rt := Q } (start ["self", f1, f2] vs) H := by
  obtain ⟨a, C, ws, rfl, hl, ec, no, ha, k⟩ := h
  match ws, hl with
  | [v1, v2], _ =>
    refine ⟨_, rfl, _, rfl, a, C, rfl, ec.oe, no f1 (by simp), Or.inl ⟨ha, fun d hd nda => ?_⟩⟩
    refine ⟨_, rfl, _, rfl, a, C, rfl, ec.oe, no f2 (by simp), Or.inr ⟨d, _, upd_same, by rw [upd_ne nda]; exact upd_same, (by show 1 ≤ 900; decide), ?_⟩⟩
    refine k d _ hd nda (by rw [upd_ne (Ne.symm nda), upd_same]) upd_same fun b h1 h2 => by rw [upd_ne h2, upd_ne h1, upd_ne h2]
theorem ini3 {vs : List V} {H : Hp} {Q : VK} {E : XK} (h : spI K [f1, f2, f3] vs H Q E) :
    tSeq (tOst K f1 (tVar 0) (tVar 1)) (tSeq (tOst K f2 (tVar 0) (tVar 2)) (tOst K f3 (tVar 0) (tVar 3))) { nx := fun _ H' => Q .non H', rt := Q } (start ["self", f1, f2, f3] vs) H := by
  obtain ⟨a, C, ws, rfl, hl, ec, no, ha, k⟩ := h
  match ws, hl with
  | [v1, v2, v3], _ =>
    refine ⟨_, rfl, _, rfl, a, C, rfl, ec.oe, no f1 (by simp), Or.inl ⟨ha, fun d hd nda => ?_⟩⟩
    refine ⟨_, rfl, _, rfl, a, C, rfl, ec.oe, no f2 (by simp), Or.inr ⟨d, _, upd_same, by rw [upd_ne nda]; exact upd_same, (by show 1 ≤ 900; decide), ?_⟩⟩
    refine ⟨_, rfl, _, rfl, a, C, rfl, ec.oe, no f3 (by simp), Or.inr ⟨d, _, by rw [upd_ne (Ne.symm nda)]; exact upd_same, upd_same, (by show 2 ≤ 900; decide), ?_⟩⟩
    refine k d _ hd nda (by rw [upd_ne (Ne.symm nda), upd_ne (Ne.symm nda), upd_same]) upd_same fun b h1 h2 => by rw [upd_ne h2, upd_ne h2, upd_ne h1, upd_ne h2]
theorem spI_len {names : List Str} {vs : List V} {H : Hp} {Q : VK} {E : XK} (h : spI K names vs H Q E) : vs.length = names.length + 1 := by
  obtain ⟨a, C, ws, rfl, hl, _⟩ := h
  rw [List.length_cons, hl]
end
end Cl

/-! Lay5: list comprehensions whose elements are data. -/
namespace Cl
open PySem PySem.Spec
open PyProof.Rows hiding St
open L2

/-- evaluates to data that satisfy P, from any larger heap -/
def Ed (te : TE) (σ : St) (H : Hp) (P : V → Hp → Prop) : Prop := ∀ H1, Same H H1 → ∀ Q : VK, (∀ v H2, Same H1 H2 → P v H2 → Q v H2) → te σ H1 Q
def Et (tt : TT) (σ : St) (H : Hp) (b : Bool) : Prop := ∀ H1, Same H H1 → ∀ Q : Bool → Hp → Prop, (∀ H2, Same H1 H2 → Q b H2) → tt σ H1 Q
abbrev isD (d : PyData) : V → Hp → Prop := fun v H => Dt H v d
theorem Dt.same {H H' : Hp} {v : V} {d : PyData} (h : Dt H v d) (e : Same H H') : Dt H' v d := h.mono (kdOf e)
theorem DtAll.same {H H' : Hp} {v : List V} {d : List PyData} (h : DtAll H v d) (e : Same H H') : DtAll H' v d := h.mono (kdOf e)
theorem et_yes {σ : St} {H : Hp} : Et tYes σ H true := fun H1 _ _ q => q H1 (Same.refl H1)
theorem ed_var {σ : St} {H : Hp} {i : Nat} {v : V} {d : PyData} (h : σ[i]? = some (some v)) (hd : Dt H v d) : Ed (tVar i) σ H (isD d) :=
  fun H1 e Q q => ⟨v, h, q v H1 (Same.refl H1) (hd.same e)⟩
theorem same_mut {H0 H : Hp} {p : Addr} {o : HO} (e : Same H0 H) (h : H0 p = none) : Same H0 (upd H p o) := fun a u ha => by
  rw [upd_ne (ne_of_none ha h)]
  exact e a u ha
theorem same_free {H H' : Hp} {p : Addr} (e : Same H H') (h : H' p = none) : H p = none := e.free h


/-! ### data without lists stay whatever list is written -/
mutual
def pu : PyData → Bool
  | .tuple ds => puAll ds
  | .list _ => false
  | .dict _ => false
  | _ => true
def puAll : List PyData → Bool
  | [] => true
  | d :: ds => pu d && puAll ds
end
mutual
theorem Dt.tk {H H' : Hp} (k : Tk H H') : ∀ {d : PyData} {v : V}, pu d = true → Dt H v d → Dt H' v d
  | .none, _, _, h => by cases h; exact .non
  | .bool b, _, _, h => by cases h; exact .bl b
  | .int i, _, _, h => by cases h; exact .int i
  | .str x, _, _, h => by cases h; exact .str x
  | .tuple ds, _, p, h => by cases h with | tup e a => exact .tup (k _ _ e) (DtAll.tk k p a)
  | .list ds, _, p, h => by cases p
  | .dict _, _, p, h => by cases p
theorem DtAll.tk {H H' : Hp} (k : Tk H H') : ∀ {ds : List PyData} {vs : List V}, puAll ds = true → DtAll H vs ds → DtAll H' vs ds
  | [], _, _, h => by cases h; exact .nil
  | d :: ds, _, p, h => by
    have p' : (pu d && puAll ds) = true := p
    obtain ⟨p1, p2⟩ := Bool.and_eq_true_iff.mp p'
    cases h with | cons a b => exact .cons (Dt.tk k p1 a) (DtAll.tk k p2 b)
end
theorem puAll_of {ds : List PyData} (h : ∀ d ∈ ds, pu d = true) : puAll ds = true := by
  induction ds with
  | nil => rfl
  | cons d ds ih =>
    show (pu d && puAll ds) = true
    rw [h d List.mem_cons_self, ih fun x hx => h x (List.mem_cons_of_mem _ hx)]
    rfl
theorem tk_lst {H : Hp} {D : Addr} {xs : List V} {o : HO} (h : H D = some (.lst xs)) : Tk H (upd H D o) := fun a ys e => by
  rw [upd_ne (fun z => by rw [z, h] at e; cases e)]
  exact e
theorem DtAll.snoc {H : Hp} {vs : List V} {v : V} {ds : List PyData} {d : PyData} (h : DtAll H vs ds) (g : Dt H v d) : DtAll H (vs ++ [v]) (ds ++ [d]) := h.append (.cons g .nil)

/-- what a comprehension has told so far stands at D -/
def Cw (H : Hp) (D : Addr) (ds : List PyData) (H' : Hp) : Prop := H D = none ∧ Same H H' ∧ puAll ds = true ∧ ∃ ys, H' D = some (.lst ys) ∧ DtAll H' ys ds
theorem puAll_snoc {ds : List PyData} {d : PyData} (h : puAll ds = true) (g : pu d = true) : puAll (ds ++ [d]) = true := by
  refine puAll_of fun x hx => ?_
  rcases List.mem_append.mp hx with hx | hx
  · induction ds with
    | nil => cases hx
    | cons e es ih =>
      obtain ⟨p1, p2⟩ := Bool.and_eq_true_iff.mp (show (pu e && puAll es) = true from h)
      rcases List.mem_cons.mp hx with rfl | hx
      · exact p1
      · exact ih p2 (List.mem_append_left _ hx) hx
  · rw [List.mem_singleton.mp hx]
    exact g
section
variable {σ σ2 : St} {H H' : Hp} {te : TE} {tt : TT} {D : Addr} {ds : List PyData} {b : Bool} {f : PyData}
theorem cw_turn (p : Cw H D ds H') (hz : ds.length < 1000000) (ht : Et tt σ2 H b) (he : b = true → Ed te σ2 H (isD f) ∧ pu f = true) :
    tt σ2 H' fun b' H3 => if b' = true then te σ2 H3 fun y H4 => ∃ acc, H4 D = some (.lst acc) ∧ acc.length < sizeLine ∧
      Cw H D (if b = true then ds ++ [f] else ds) (upd H4 D (.lst (acc ++ [y]))) else Cw H D (if b = true then ds ++ [f] else ds) H3 := by
  obtain ⟨p1, p2, pp, ys, p3, p4⟩ := p
  refine ht H' p2 _ fun H3 e3 => ?_
  cases b with
  | true =>
    show te σ2 H3 _
    obtain ⟨he, pf⟩ := he rfl
    refine he H3 (p2.trans e3) _ fun y H4 e4 hy => ⟨ys, e4 _ _ (e3 _ _ p3), ?_, p1, same_mut ((p2.trans e3).trans e4) p1, puAll_snoc pp pf, _, upd_same, ?_⟩
    · rw [p4.length, sizeLine_eq]
      omega
    · exact (((p4.same e3).same e4).tk (tk_lst (e4 _ _ (e3 _ _ p3))) pp).snoc (hy.tk (tk_lst (e4 _ _ (e3 _ _ p3))) pf)
  | false => exact ⟨p1, p2.trans e3, pp, ys, e3 _ _ p3, p4.same e3⟩
end
/-- the data told by the first i items -/
def told (n : Nat) (b : Nat → Bool) (f : Nat → PyData) : List PyData := ((List.range n).filter b).map f
theorem told_succ (n : Nat) (b : Nat → Bool) (f : Nat → PyData) : told (n + 1) b f = if b n = true then told n b f ++ [f n] else told n b f := by
  unfold told
  rw [List.range_succ, List.filter_append, List.map_append]
  cases h : b n with
  | true => simp [h]
  | false => simp [h]
theorem told_len (n : Nat) (b : Nat → Bool) (f : Nat → PyData) : (told n b f).length ≤ n := by
  unfold told
  rw [List.length_map]
  have h := List.length_filter_le b (List.range n)
  rwa [List.length_range] at h
/-- what a comprehension leaves -/
def LcEnd (H : Hp) (ds : List PyData) (Q : VK) : Prop := ∀ (D : Addr) (H' : Hp) (ys : List V), H D = none → Same H H' → H' D = some (.lst ys) → DtAll H' ys ds → Q (.ref D) H'
section
variable {K : PySem.W.Frag} {σ : St} {H : Hp} {te : TE} {tt : TT} {vs : List Nat} {j : Nat} {Q : VK} {b : Nat → Bool} {f : Nat → PyData}
/-- [e for x in range(n) if t] -/
theorem lc_rng {n : Nat} {ta : TA} (hn : n ≤ 100000) (ha : ∀ Q', (∀ H1, Same H H1 → Q' [.int (n : Int)] H1) → ta σ H Q') (hw : ∀ x, wipe ((wipe σ vs).set j (some x)) vs = wipe σ vs)
    (ht : ∀ (i : Nat), i < n → Et tt ((wipe σ vs).set j (some (.int (i : Int)))) H (b i))
    (he : ∀ (i : Nat), i < n → b i = true → Ed te ((wipe σ vs).set j (some (.int (i : Int)))) H (isD (f i)) ∧ pu (f i) = true) (k : LcEnd H (told n b f) Q) : tLc (iRng1 ta) (gName j) tt te vs σ H Q := by
  refine ha _ fun H1 e1 => ⟨(n : Int), rfl, by omega, by omega, fun D hD => ?_⟩
  have hD0 := same_free e1 hD
  refine lc_range (lo := 0) (n := n) (fun i H' => Cw H D (told i b f) H') ⟨hD0, e1.trans (sameNew hD), rfl, [], upd_same, .nil⟩ (fun i H' hi p => ⟨?_, ?_⟩) (fun H' p => ?_)
  · exact hw _
  · rw [told_succ]
    have e0 : (0 : Int) + (i : Int) = (i : Int) := Int.zero_add _
    show tt ((wipe σ vs).set j (some (.int ((0 : Int) + (i : Int))))) H' _
    rw [e0]
    have := told_len i b f
    exact cw_turn p (by omega) (ht i hi) (he i hi)
  · obtain ⟨p1, p2, _, ys, p3, p4⟩ := p
    exact k D H' ys p1 p2 p3 p4
/-- [e for x in xs if t], xs a list -/
theorem lc_lst {tl : TE} {a : Addr} {xs : List V} (hx : H a = some (.lst xs)) (hz : xs.length ≤ 100000) (ha : ∀ Q' : VK, (∀ H1, Same H H1 → Q' (.ref a) H1) → tl σ H Q') (hw : ∀ x, wipe ((wipe σ vs).set j (some x)) vs = wipe σ vs)
    (ht : ∀ (i : Nat) (x : V), xs[i]? = some x → Et tt ((wipe σ vs).set j (some x)) H (b i))
    (he : ∀ (i : Nat) (x : V), xs[i]? = some x → b i = true → Ed te ((wipe σ vs).set j (some x)) H (isD (f i)) ∧ pu (f i) = true) (k : LcEnd H (told xs.length b f) Q) : tLc (iList K tl) (gName j) tt te vs σ H Q := by
  refine ha _ fun H1 e1 => ⟨a, rfl, ⟨xs, SqL.of (e1 _ _ hx)⟩, fun D hD => ?_⟩
  have hD0 := same_free e1 hD
  refine lc_list (xs := xs) (fun i H' => Cw H D (told i b f) H') ⟨hD0, e1.trans (sameNew hD), rfl, [], upd_same, .nil⟩ (fun i H' _ p => SqL.of (p.2.1 _ _ hx)) (fun i x H' hi p => ⟨hw x, ?_⟩) (fun H' p => ?_)
  · rw [told_succ]
    have := told_len i b f
    have hl := (List.getElem?_eq_some_iff.mp hi).1
    exact cw_turn p (by omega) (ht i x hi) (he i x hi)
  · obtain ⟨p1, p2, _, ys, p3, p4⟩ := p
    exact k D H' ys p1 p2 p3 p4
/-- [e for x in xs if t], xs a tuple -/
theorem lc_tpl {tl : TE} {a : Addr} {xs : List V} (hx : SqT K H a xs) (hs : ∀ H', Same H H' → SqT K H' a xs) (hz : xs.length ≤ 100000) (ha : ∀ Q' : VK, (∀ H1, Same H H1 → Q' (.ref a) H1) → tl σ H Q') (hw : ∀ x, wipe ((wipe σ vs).set j (some x)) vs = wipe σ vs)
    (ht : ∀ (i : Nat) (x : V), xs[i]? = some x → Et tt ((wipe σ vs).set j (some x)) H (b i))
    (he : ∀ (i : Nat) (x : V), xs[i]? = some x → b i = true → Ed te ((wipe σ vs).set j (some x)) H (isD (f i)) ∧ pu (f i) = true) (k : LcEnd H (told xs.length b f) Q) : tLc (iTup K tl) (gName j) tt te vs σ H Q := by
  refine ha _ fun H1 e1 => ⟨a, rfl, ⟨xs, hs H1 e1⟩, fun D hD => ?_⟩
  have hD0 := same_free e1 hD
  refine lc_tup (xs := xs) (fun i H' => Cw H D (told i b f) H') ⟨hD0, e1.trans (sameNew hD), rfl, [], upd_same, .nil⟩ (fun i H' _ p => hs H' p.2.1) (fun i x H' hi p => ⟨hw x, ?_⟩) (fun H' p => ?_)
  · rw [told_succ]
    have := told_len i b f
    have hl := (List.getElem?_eq_some_iff.mp hi).1
    exact cw_turn p (by omega) (ht i x hi) (he i x hi)
  · obtain ⟨p1, p2, _, ys, p3, p4⟩ := p
    exact k D H' ys p1 p2 p3 p4
end
theorem arg_c {v : V} {σ : St} {H : Hp} (Q' : List V → Hp → Prop) (q : ∀ H1, Same H H1 → Q' [v] H1) : (tCons (tC v) tNil) σ H Q' := q H (Same.refl H)
/-! peeling a reading -/
theorem go_seq {t u : TS} {D : Ends} {σ : St} {H : Hp} (h : t { D with nx := u D } σ H) : tSeq t u D σ H := h
theorem go_asg {te : TE} {g : TG} {D : Ends} {σ : St} {H : Hp} (h : te σ H fun x H1 => g x σ H1 D.nx) : tAsg te g D σ H := h
theorem go_ret {te : TE} {D : Ends} {σ : St} {H : Hp} (h : te σ H D.rt) : tRet te D σ H := h
theorem go_drop {te : TE} {D : Ends} {σ : St} {H : Hp} (h : te σ H fun _ H1 => D.nx σ H1) : tDrop te D σ H := h
end Cl

/-! Lay6: the head: what the names of the module stand for, told by a Hook; the law's end over it. -/
namespace Cl
open PySem PySem.Spec
open PyProof.Rows hiding St
open L2

/-- the law from its promise, the written part told by the head -/
theorem walk_gE {l : PySem.W.OpenLaw} {n k : Nat} {q : Program} {loose : List Str} {XP : (Str → Option Value) → Heap → Prop} {YP : World → Heap → Prop} {d : DefRec} {x : Str}
    (hn : l.most = some n) (hn2 : n ≤ sizeLine) (hdf : d.params.defaults = []) (hr : Room k callerA)
    (F : ∀ (w : World) (mg : Str → Option Value) (fa : Addr) (h : Heap), YP w h → h.Ns mainGlobals mg → mg d.name = some (.ref fa) →
      ∃ (K : PySem.W.Frag) (fd : FuncData) (sp : Sp), K.In h ∧ (∀ (s : Shared) (u : Value), BindsTo s fd ⟨[u], []⟩ [(x, u)]) ∧
        (∀ (H : Hp) (a : Addr) (ns : List Int), ns.length ≤ n → (∀ b xs, H b ≠ some (.tup xs)) → SqL K H a (ns.map V.int) → sp [.ref a] H (fun v _ => v = .bl true) fun _ _ _ => False) ∧
        ∀ base : Heap, K.In base → base.Ns mainGlobals mg → FnG l.prog w K mg base k fa fd [x] sp) :
    PySem.W.WalkO q loose XP YP l.row.toRowW d [] (fun f vs => PySem.call f vs) := by
  refine Att.attach_call hn hdf fun w s₀ s₁ mg mb fa o pm cd doc a vs ns G Y ho hd hcd hmg hobj hints hlen hg => ?_
  obtain ⟨K, fd, sp, KX, hb, hsp, hF⟩ := F w mg fa _ Y G.T.g hmg
  exact law_g KX G.T.g G.T.b G.T.builtins G.T.nolimit hg hobj hints (Nat.le_trans hlen hn2) hr hF hb fun H hN hS => hsp H a ns hlen hN hS

/-- a def of the module by its datum -/
def topD (x : Str) (st : Stmt) : He.DefD := ⟨(x, none), x, x, defArgs st, defBody st, defScope st, [], []⟩
/-- a method of a class of the module -/
def metD (C m q : Str) (st : Stmt) : He.DefD := ⟨(C, some m), m, q, defArgs st, defBody st, defScope st, [], []⟩
section
variable {fa : List He.Fa} {fn : List He.DefD} {K : PySem.W.Frag} {h : Heap} {mg : Str → Option Value}
theorem top_of (c : He.SaysD fa fn K) (X : K.In h) (G : h.Ns mainGlobals mg) {x : Str} {st : Stmt} {ps : List Str} (i j : Nat)
    (hi : fn[i]? = some (topD x st)) (hj : fa[j]? = some (.glo x))
    (hb : ∀ {f : Addr} {fd : FuncData}, FnAt K x x st f fd → Binds K fd ps []) : Top K mg x st ps := by
  obtain ⟨fd, F⟩ := c.def_ i hi
  exact ⟨_, fd, F, He.glo_ok X G (c.fact j hj), hb F⟩
theorem met_of (c : He.SaysD fa fn K) {C m q : Str} {st : Stmt} {ps : List Str} (i j : Nat) (hi : fn[i]? = some (metD C m q st)) (hj : fa[j]? = some (.meth C m))
    (hb : ∀ {f : Addr} {fd : FuncData}, FnAt K m q st f fd → Binds K fd ps []) :
    ∃ fd, PySem.W.findIn K (.ref (He.ga K C)) m = some (some (.ref (He.ma K (He.ga K C) m))) ∧ PySem.W.typeIn K (.ref (He.ma K (He.ga K C) m)) = some (.type "function") ∧
      FnAt K m q st (He.ma K (He.ga K C) m) fd ∧ Binds K fd ps [] := by
  obtain ⟨fd, F⟩ := c.def_ i hi
  have c1 := c.fact j hj
  obtain ⟨c2, c3⟩ := He.ba (show (He.eqO (PySem.W.findIn K (.ref (He.ga K C)) m) (some (some (.ref (He.ma K (He.ga K C) m)))) && (PySem.W.isFn K (.ref (He.ma K (He.ga K C) m)) && PySem.W.keepIn K (.ref (He.ma K (He.ga K C) m)))) = true from c1)
  exact ⟨fd, He.eqO_ok c2, beq_iff_eq.mp (He.ba c3).1, F, hb F⟩
end
end Cl

namespace K00
open PySem PySem.Spec
open PyProof.Rows hiding St
open L2 Cl
def top (i : Nat) : Stmt := PySem.Challenge.pw_clamberhouse_k00_errors.main.body.getD i (.Pass ⟨0, 0, 0, 0⟩)
/-- the classes' names, in the order of their kinds -/
def kn : List Str := ["BadName", "TakenName", "BadCell", "NotThere", "BadLand", "BadArrangement", "BadText", "BadNumber", "NoMove", "NotKept", "Unlike", "TooMany", "NoName", "NothingToUndo", "NothingToRedo"]
def cls (K : PySem.W.Frag) (k : Nat) : Addr := He.ga K (kn.getD k "")
/-- how many fields -/
def nf : List Nat := [1, 1, 1, 1, 1, 1, 2, 2, 2, 2, 3, 3, 1, 0, 0]
structure Tx (K : PySem.W.Frag) (mg : Str → Option Value) : Prop where
  n_len : mg "len" = none
  n_int : mg "int" = none
  n_list : mg "list" = none
  n_range : mg "range" = none
  n_repr : mg "repr" = none
  n_isinstance : mg "isinstance" = none
  n_ValueError : mg "ValueError" = none
  g_ClimbError : mg "ClimbError" = some (.ref (He.ga K "ClimbError"))
  g_BadName : mg "BadName" = some (.ref (He.ga K "BadName"))
  ec_BadName : EC K (He.ga K "BadName")
  no_BadName_name : PySem.W.findIn K (.ref (He.ga K "BadName")) "name" = some none
  in_BadName : ∃ fd, PySem.W.findIn K (.ref (He.ga K "BadName")) "__init__" = some (some (.ref (He.ma K (He.ga K "BadName") "__init__"))) ∧ PySem.W.typeIn K (.ref (He.ma K (He.ga K "BadName") "__init__")) = some (.type "function") ∧
    FnAt K "__init__" "BadName.__init__" (inClass (top 4) 0) (He.ma K (He.ga K "BadName") "__init__") fd ∧ Binds K fd ["self", "name"] []
  g_TakenName : mg "TakenName" = some (.ref (He.ga K "TakenName"))
  ec_TakenName : EC K (He.ga K "TakenName")
  no_TakenName_name : PySem.W.findIn K (.ref (He.ga K "TakenName")) "name" = some none
  in_TakenName : ∃ fd, PySem.W.findIn K (.ref (He.ga K "TakenName")) "__init__" = some (some (.ref (He.ma K (He.ga K "TakenName") "__init__"))) ∧ PySem.W.typeIn K (.ref (He.ma K (He.ga K "TakenName") "__init__")) = some (.type "function") ∧
    FnAt K "__init__" "TakenName.__init__" (inClass (top 8) 0) (He.ma K (He.ga K "TakenName") "__init__") fd ∧ Binds K fd ["self", "name"] []
  g_BadCell : mg "BadCell" = some (.ref (He.ga K "BadCell"))
  ec_BadCell : EC K (He.ga K "BadCell")
  no_BadCell_cell : PySem.W.findIn K (.ref (He.ga K "BadCell")) "cell" = some none
  in_BadCell : ∃ fd, PySem.W.findIn K (.ref (He.ga K "BadCell")) "__init__" = some (some (.ref (He.ma K (He.ga K "BadCell") "__init__"))) ∧ PySem.W.typeIn K (.ref (He.ma K (He.ga K "BadCell") "__init__")) = some (.type "function") ∧
    FnAt K "__init__" "BadCell.__init__" (inClass (top 5) 0) (He.ma K (He.ga K "BadCell") "__init__") fd ∧ Binds K fd ["self", "cell"] []
  g_NotThere : mg "NotThere" = some (.ref (He.ga K "NotThere"))
  ec_NotThere : EC K (He.ga K "NotThere")
  no_NotThere_cell : PySem.W.findIn K (.ref (He.ga K "NotThere")) "cell" = some none
  in_NotThere : ∃ fd, PySem.W.findIn K (.ref (He.ga K "NotThere")) "__init__" = some (some (.ref (He.ma K (He.ga K "NotThere") "__init__"))) ∧ PySem.W.typeIn K (.ref (He.ma K (He.ga K "NotThere") "__init__")) = some (.type "function") ∧
    FnAt K "__init__" "NotThere.__init__" (inClass (top 9) 0) (He.ma K (He.ga K "NotThere") "__init__") fd ∧ Binds K fd ["self", "cell"] []
  g_BadLand : mg "BadLand" = some (.ref (He.ga K "BadLand"))
  ec_BadLand : EC K (He.ga K "BadLand")
  no_BadLand_cells : PySem.W.findIn K (.ref (He.ga K "BadLand")) "cells" = some none
  in_BadLand : ∃ fd, PySem.W.findIn K (.ref (He.ga K "BadLand")) "__init__" = some (some (.ref (He.ma K (He.ga K "BadLand") "__init__"))) ∧ PySem.W.typeIn K (.ref (He.ma K (He.ga K "BadLand") "__init__")) = some (.type "function") ∧
    FnAt K "__init__" "BadLand.__init__" (inClass (top 6) 0) (He.ma K (He.ga K "BadLand") "__init__") fd ∧ Binds K fd ["self", "cells"] []
  g_BadArrangement : mg "BadArrangement" = some (.ref (He.ga K "BadArrangement"))
  ec_BadArrangement : EC K (He.ga K "BadArrangement")
  no_BadArrangement_cells : PySem.W.findIn K (.ref (He.ga K "BadArrangement")) "cells" = some none
  in_BadArrangement : ∃ fd, PySem.W.findIn K (.ref (He.ga K "BadArrangement")) "__init__" = some (some (.ref (He.ma K (He.ga K "BadArrangement") "__init__"))) ∧ PySem.W.typeIn K (.ref (He.ma K (He.ga K "BadArrangement") "__init__")) = some (.type "function") ∧
    FnAt K "__init__" "BadArrangement.__init__" (inClass (top 7) 0) (He.ma K (He.ga K "BadArrangement") "__init__") fd ∧ Binds K fd ["self", "cells"] []
  g_BadText : mg "BadText" = some (.ref (He.ga K "BadText"))
  ec_BadText : EC K (He.ga K "BadText")
  no_BadText_line : PySem.W.findIn K (.ref (He.ga K "BadText")) "line" = some none
  no_BadText_column : PySem.W.findIn K (.ref (He.ga K "BadText")) "column" = some none
  in_BadText : ∃ fd, PySem.W.findIn K (.ref (He.ga K "BadText")) "__init__" = some (some (.ref (He.ma K (He.ga K "BadText") "__init__"))) ∧ PySem.W.typeIn K (.ref (He.ma K (He.ga K "BadText") "__init__")) = some (.type "function") ∧
    FnAt K "__init__" "BadText.__init__" (inClass (top 2) 0) (He.ma K (He.ga K "BadText") "__init__") fd ∧ Binds K fd ["self", "line", "column"] []
  g_BadNumber : mg "BadNumber" = some (.ref (He.ga K "BadNumber"))
  ec_BadNumber : EC K (He.ga K "BadNumber")
  no_BadNumber_what : PySem.W.findIn K (.ref (He.ga K "BadNumber")) "what" = some none
  no_BadNumber_number : PySem.W.findIn K (.ref (He.ga K "BadNumber")) "number" = some none
  in_BadNumber : ∃ fd, PySem.W.findIn K (.ref (He.ga K "BadNumber")) "__init__" = some (some (.ref (He.ma K (He.ga K "BadNumber") "__init__"))) ∧ PySem.W.typeIn K (.ref (He.ma K (He.ga K "BadNumber") "__init__")) = some (.type "function") ∧
    FnAt K "__init__" "BadNumber.__init__" (inClass (top 3) 0) (He.ma K (He.ga K "BadNumber") "__init__") fd ∧ Binds K fd ["self", "what", "number"] []
  g_NoMove : mg "NoMove" = some (.ref (He.ga K "NoMove"))
  ec_NoMove : EC K (He.ga K "NoMove")
  no_NoMove_start : PySem.W.findIn K (.ref (He.ga K "NoMove")) "start" = some none
  no_NoMove_end : PySem.W.findIn K (.ref (He.ga K "NoMove")) "end" = some none
  in_NoMove : ∃ fd, PySem.W.findIn K (.ref (He.ga K "NoMove")) "__init__" = some (some (.ref (He.ma K (He.ga K "NoMove") "__init__"))) ∧ PySem.W.typeIn K (.ref (He.ma K (He.ga K "NoMove") "__init__")) = some (.type "function") ∧
    FnAt K "__init__" "NoMove.__init__" (inClass (top 10) 0) (He.ma K (He.ga K "NoMove") "__init__") fd ∧ Binds K fd ["self", "start", "end"] []
  g_NotKept : mg "NotKept" = some (.ref (He.ga K "NotKept"))
  ec_NotKept : EC K (He.ga K "NotKept")
  no_NotKept_promise : PySem.W.findIn K (.ref (He.ga K "NotKept")) "promise" = some none
  no_NotKept_witness : PySem.W.findIn K (.ref (He.ga K "NotKept")) "witness" = some none
  in_NotKept : ∃ fd, PySem.W.findIn K (.ref (He.ga K "NotKept")) "__init__" = some (some (.ref (He.ma K (He.ga K "NotKept") "__init__"))) ∧ PySem.W.typeIn K (.ref (He.ma K (He.ga K "NotKept") "__init__")) = some (.type "function") ∧
    FnAt K "__init__" "NotKept.__init__" (inClass (top 13) 0) (He.ma K (He.ga K "NotKept") "__init__") fd ∧ Binds K fd ["self", "promise", "witness"] []
  g_Unlike : mg "Unlike" = some (.ref (He.ga K "Unlike"))
  ec_Unlike : EC K (He.ga K "Unlike")
  no_Unlike_region : PySem.W.findIn K (.ref (He.ga K "Unlike")) "region" = some none
  no_Unlike_here : PySem.W.findIn K (.ref (He.ga K "Unlike")) "here" = some none
  no_Unlike_there : PySem.W.findIn K (.ref (He.ga K "Unlike")) "there" = some none
  in_Unlike : ∃ fd, PySem.W.findIn K (.ref (He.ga K "Unlike")) "__init__" = some (some (.ref (He.ma K (He.ga K "Unlike") "__init__"))) ∧ PySem.W.typeIn K (.ref (He.ma K (He.ga K "Unlike") "__init__")) = some (.type "function") ∧
    FnAt K "__init__" "Unlike.__init__" (inClass (top 11) 0) (He.ma K (He.ga K "Unlike") "__init__") fd ∧ Binds K fd ["self", "region", "here", "there"] []
  g_TooMany : mg "TooMany" = some (.ref (He.ga K "TooMany"))
  ec_TooMany : EC K (He.ga K "TooMany")
  no_TooMany_what : PySem.W.findIn K (.ref (He.ga K "TooMany")) "what" = some none
  no_TooMany_many : PySem.W.findIn K (.ref (He.ga K "TooMany")) "many" = some none
  no_TooMany_limit : PySem.W.findIn K (.ref (He.ga K "TooMany")) "limit" = some none
  in_TooMany : ∃ fd, PySem.W.findIn K (.ref (He.ga K "TooMany")) "__init__" = some (some (.ref (He.ma K (He.ga K "TooMany") "__init__"))) ∧ PySem.W.typeIn K (.ref (He.ma K (He.ga K "TooMany") "__init__")) = some (.type "function") ∧
    FnAt K "__init__" "TooMany.__init__" (inClass (top 12) 0) (He.ma K (He.ga K "TooMany") "__init__") fd ∧ Binds K fd ["self", "what", "many", "limit"] []
  g_NoName : mg "NoName" = some (.ref (He.ga K "NoName"))
  ec_NoName : EC K (He.ga K "NoName")
  no_NoName_name : PySem.W.findIn K (.ref (He.ga K "NoName")) "name" = some none
  in_NoName : ∃ fd, PySem.W.findIn K (.ref (He.ga K "NoName")) "__init__" = some (some (.ref (He.ma K (He.ga K "NoName") "__init__"))) ∧ PySem.W.typeIn K (.ref (He.ma K (He.ga K "NoName") "__init__")) = some (.type "function") ∧
    FnAt K "__init__" "NoName.__init__" (inClass (top 14) 0) (He.ma K (He.ga K "NoName") "__init__") fd ∧ Binds K fd ["self", "name"] []
  g_NothingToUndo : mg "NothingToUndo" = some (.ref (He.ga K "NothingToUndo"))
  ec_NothingToUndo : EC K (He.ga K "NothingToUndo")
  xq_NothingToUndo : PySem.W.excIn K (He.ga K "NothingToUndo") He.veBase "ValueError.__new__" = true
  g_NothingToRedo : mg "NothingToRedo" = some (.ref (He.ga K "NothingToRedo"))
  ec_NothingToRedo : EC K (He.ga K "NothingToRedo")
  xq_NothingToRedo : PySem.W.excIn K (He.ga K "NothingToRedo") He.veBase "ValueError.__new__" = true
  kit : ∀ i j, i < 15 → j < 15 → PySem.W.kitOne K (.ref (cls K i)) (.ref (cls K j)) = some (decide (j = i))
  kitC : ∀ i, i < 15 → PySem.W.kitOne K (.ref (cls K i)) (.ref (He.ga K "ClimbError")) = some true
  kitV : ∀ i, i < 15 → PySem.W.kitOne K (.ref (cls K i)) (.type "ValueError") = some true
theorem Tx.ec {K : PySem.W.Frag} {mg : Str → Option Value} (T : Tx K mg) (k : Nat) (h : k < 15) : EC K (cls K k) := by
  match k, h with
  | 0, _ => exact T.ec_BadName
  | 1, _ => exact T.ec_TakenName
  | 2, _ => exact T.ec_BadCell
  | 3, _ => exact T.ec_NotThere
  | 4, _ => exact T.ec_BadLand
  | 5, _ => exact T.ec_BadArrangement
  | 6, _ => exact T.ec_BadText
  | 7, _ => exact T.ec_BadNumber
  | 8, _ => exact T.ec_NoMove
  | 9, _ => exact T.ec_NotKept
  | 10, _ => exact T.ec_Unlike
  | 11, _ => exact T.ec_TooMany
  | 12, _ => exact T.ec_NoName
  | 13, _ => exact T.ec_NothingToUndo
  | 14, _ => exact T.ec_NothingToRedo
section
variable {P : Program} {w : World} {K : PySem.W.Frag} {mg : Str → Option Value} {base : Heap}
theorem sc_BadName : FnScope ["self", "name"] ["self", "name"] (defScope (inClass (top 4) 0)) := ⟨rfl, rfl, rfl, by decide +kernel, rfl, by decide +kernel, by decide +kernel⟩
theorem mk_BadName (T : Tx K mg) : EMk P w K mg base "BadName" 1 ["name"] ["self", "name"] (He.ga K "BadName") := by
  obtain ⟨fd, h1, h2, h3, h4⟩ := T.in_BadName
  refine ⟨T.g_BadName, T.ec_BadName, fun f hf => ?_, rfl, _, fd, h1, h2, FnG.of h3 sc_BadName (fun h => spI_len h) (fun cd A fr s H vs Q E hr hgd h => ⟨_, (pss_one (ps_ost (pv 0) (pv 1))), ini1 h⟩), h4⟩
  simp only [List.mem_cons, List.not_mem_nil, or_false] at hf
  rw [hf]; exact T.no_BadName_name
theorem sc_TakenName : FnScope ["self", "name"] ["self", "name"] (defScope (inClass (top 8) 0)) := ⟨rfl, rfl, rfl, by decide +kernel, rfl, by decide +kernel, by decide +kernel⟩
theorem mk_TakenName (T : Tx K mg) : EMk P w K mg base "TakenName" 1 ["name"] ["self", "name"] (He.ga K "TakenName") := by
  obtain ⟨fd, h1, h2, h3, h4⟩ := T.in_TakenName
  refine ⟨T.g_TakenName, T.ec_TakenName, fun f hf => ?_, rfl, _, fd, h1, h2, FnG.of h3 sc_TakenName (fun h => spI_len h) (fun cd A fr s H vs Q E hr hgd h => ⟨_, (pss_one (ps_ost (pv 0) (pv 1))), ini1 h⟩), h4⟩
  simp only [List.mem_cons, List.not_mem_nil, or_false] at hf
  rw [hf]; exact T.no_TakenName_name
theorem sc_BadCell : FnScope ["self", "cell"] ["self", "cell"] (defScope (inClass (top 5) 0)) := ⟨rfl, rfl, rfl, by decide +kernel, rfl, by decide +kernel, by decide +kernel⟩
theorem mk_BadCell (T : Tx K mg) : EMk P w K mg base "BadCell" 1 ["cell"] ["self", "cell"] (He.ga K "BadCell") := by
  obtain ⟨fd, h1, h2, h3, h4⟩ := T.in_BadCell
  refine ⟨T.g_BadCell, T.ec_BadCell, fun f hf => ?_, rfl, _, fd, h1, h2, FnG.of h3 sc_BadCell (fun h => spI_len h) (fun cd A fr s H vs Q E hr hgd h => ⟨_, (pss_one (ps_ost (pv 0) (pv 1))), ini1 h⟩), h4⟩
  simp only [List.mem_cons, List.not_mem_nil, or_false] at hf
  rw [hf]; exact T.no_BadCell_cell
theorem sc_NotThere : FnScope ["self", "cell"] ["self", "cell"] (defScope (inClass (top 9) 0)) := ⟨rfl, rfl, rfl, by decide +kernel, rfl, by decide +kernel, by decide +kernel⟩
theorem mk_NotThere (T : Tx K mg) : EMk P w K mg base "NotThere" 1 ["cell"] ["self", "cell"] (He.ga K "NotThere") := by
  obtain ⟨fd, h1, h2, h3, h4⟩ := T.in_NotThere
  refine ⟨T.g_NotThere, T.ec_NotThere, fun f hf => ?_, rfl, _, fd, h1, h2, FnG.of h3 sc_NotThere (fun h => spI_len h) (fun cd A fr s H vs Q E hr hgd h => ⟨_, (pss_one (ps_ost (pv 0) (pv 1))), ini1 h⟩), h4⟩
  simp only [List.mem_cons, List.not_mem_nil, or_false] at hf
  rw [hf]; exact T.no_NotThere_cell
theorem sc_BadLand : FnScope ["self", "cells"] ["self", "cells"] (defScope (inClass (top 6) 0)) := ⟨rfl, rfl, rfl, by decide +kernel, rfl, by decide +kernel, by decide +kernel⟩
theorem mk_BadLand (T : Tx K mg) : EMk P w K mg base "BadLand" 1 ["cells"] ["self", "cells"] (He.ga K "BadLand") := by
  obtain ⟨fd, h1, h2, h3, h4⟩ := T.in_BadLand
  refine ⟨T.g_BadLand, T.ec_BadLand, fun f hf => ?_, rfl, _, fd, h1, h2, FnG.of h3 sc_BadLand (fun h => spI_len h) (fun cd A fr s H vs Q E hr hgd h => ⟨_, (pss_one (ps_ost (pv 0) (pv 1))), ini1 h⟩), h4⟩
  simp only [List.mem_cons, List.not_mem_nil, or_false] at hf
  rw [hf]; exact T.no_BadLand_cells
theorem sc_BadArrangement : FnScope ["self", "cells"] ["self", "cells"] (defScope (inClass (top 7) 0)) := ⟨rfl, rfl, rfl, by decide +kernel, rfl, by decide +kernel, by decide +kernel⟩
theorem mk_BadArrangement (T : Tx K mg) : EMk P w K mg base "BadArrangement" 1 ["cells"] ["self", "cells"] (He.ga K "BadArrangement") := by
  obtain ⟨fd, h1, h2, h3, h4⟩ := T.in_BadArrangement
  refine ⟨T.g_BadArrangement, T.ec_BadArrangement, fun f hf => ?_, rfl, _, fd, h1, h2, FnG.of h3 sc_BadArrangement (fun h => spI_len h) (fun cd A fr s H vs Q E hr hgd h => ⟨_, (pss_one (ps_ost (pv 0) (pv 1))), ini1 h⟩), h4⟩
  simp only [List.mem_cons, List.not_mem_nil, or_false] at hf
  rw [hf]; exact T.no_BadArrangement_cells
theorem sc_BadText : FnScope ["self", "line", "column"] ["self", "line", "column"] (defScope (inClass (top 2) 0)) := ⟨rfl, rfl, rfl, by decide +kernel, rfl, by decide +kernel, by decide +kernel⟩
theorem mk_BadText (T : Tx K mg) : EMk P w K mg base "BadText" 1 ["line", "column"] ["self", "line", "column"] (He.ga K "BadText") := by
  obtain ⟨fd, h1, h2, h3, h4⟩ := T.in_BadText
  refine ⟨T.g_BadText, T.ec_BadText, fun f hf => ?_, rfl, _, fd, h1, h2, FnG.of h3 sc_BadText (fun h => spI_len h) (fun cd A fr s H vs Q E hr hgd h => ⟨_, (pss_cons (ps_ost (pv 0) (pv 1)) (pss_one (ps_ost (pv 0) (pv 2)))), ini2 h⟩), h4⟩
  simp only [List.mem_cons, List.not_mem_nil, or_false] at hf
  rcases hf with rfl | rfl
  · exact T.no_BadText_line
  · exact T.no_BadText_column
theorem sc_BadNumber : FnScope ["self", "what", "number"] ["self", "what", "number"] (defScope (inClass (top 3) 0)) := ⟨rfl, rfl, rfl, by decide +kernel, rfl, by decide +kernel, by decide +kernel⟩
theorem mk_BadNumber (T : Tx K mg) : EMk P w K mg base "BadNumber" 1 ["what", "number"] ["self", "what", "number"] (He.ga K "BadNumber") := by
  obtain ⟨fd, h1, h2, h3, h4⟩ := T.in_BadNumber
  refine ⟨T.g_BadNumber, T.ec_BadNumber, fun f hf => ?_, rfl, _, fd, h1, h2, FnG.of h3 sc_BadNumber (fun h => spI_len h) (fun cd A fr s H vs Q E hr hgd h => ⟨_, (pss_cons (ps_ost (pv 0) (pv 1)) (pss_one (ps_ost (pv 0) (pv 2)))), ini2 h⟩), h4⟩
  simp only [List.mem_cons, List.not_mem_nil, or_false] at hf
  rcases hf with rfl | rfl
  · exact T.no_BadNumber_what
  · exact T.no_BadNumber_number
theorem sc_NoMove : FnScope ["self", "start", "end"] ["self", "start", "end"] (defScope (inClass (top 10) 0)) := ⟨rfl, rfl, rfl, by decide +kernel, rfl, by decide +kernel, by decide +kernel⟩
theorem mk_NoMove (T : Tx K mg) : EMk P w K mg base "NoMove" 1 ["start", "end"] ["self", "start", "end"] (He.ga K "NoMove") := by
  obtain ⟨fd, h1, h2, h3, h4⟩ := T.in_NoMove
  refine ⟨T.g_NoMove, T.ec_NoMove, fun f hf => ?_, rfl, _, fd, h1, h2, FnG.of h3 sc_NoMove (fun h => spI_len h) (fun cd A fr s H vs Q E hr hgd h => ⟨_, (pss_cons (ps_ost (pv 0) (pv 1)) (pss_one (ps_ost (pv 0) (pv 2)))), ini2 h⟩), h4⟩
  simp only [List.mem_cons, List.not_mem_nil, or_false] at hf
  rcases hf with rfl | rfl
  · exact T.no_NoMove_start
  · exact T.no_NoMove_end
theorem sc_NotKept : FnScope ["self", "promise", "witness"] ["self", "promise", "witness"] (defScope (inClass (top 13) 0)) := ⟨rfl, rfl, rfl, by decide +kernel, rfl, by decide +kernel, by decide +kernel⟩
theorem mk_NotKept (T : Tx K mg) : EMk P w K mg base "NotKept" 1 ["promise", "witness"] ["self", "promise", "witness"] (He.ga K "NotKept") := by
  obtain ⟨fd, h1, h2, h3, h4⟩ := T.in_NotKept
  refine ⟨T.g_NotKept, T.ec_NotKept, fun f hf => ?_, rfl, _, fd, h1, h2, FnG.of h3 sc_NotKept (fun h => spI_len h) (fun cd A fr s H vs Q E hr hgd h => ⟨_, (pss_cons (ps_ost (pv 0) (pv 1)) (pss_one (ps_ost (pv 0) (pv 2)))), ini2 h⟩), h4⟩
  simp only [List.mem_cons, List.not_mem_nil, or_false] at hf
  rcases hf with rfl | rfl
  · exact T.no_NotKept_promise
  · exact T.no_NotKept_witness
theorem sc_Unlike : FnScope ["self", "region", "here", "there"] ["self", "region", "here", "there"] (defScope (inClass (top 11) 0)) := ⟨rfl, rfl, rfl, by decide +kernel, rfl, by decide +kernel, by decide +kernel⟩
theorem mk_Unlike (T : Tx K mg) : EMk P w K mg base "Unlike" 1 ["region", "here", "there"] ["self", "region", "here", "there"] (He.ga K "Unlike") := by
  obtain ⟨fd, h1, h2, h3, h4⟩ := T.in_Unlike
  refine ⟨T.g_Unlike, T.ec_Unlike, fun f hf => ?_, rfl, _, fd, h1, h2, FnG.of h3 sc_Unlike (fun h => spI_len h) (fun cd A fr s H vs Q E hr hgd h => ⟨_, (pss_cons (ps_ost (pv 0) (pv 1)) (pss_cons (ps_ost (pv 0) (pv 2)) (pss_one (ps_ost (pv 0) (pv 3))))), ini3 h⟩), h4⟩
  simp only [List.mem_cons, List.not_mem_nil, or_false] at hf
  rcases hf with rfl | rfl | rfl
  · exact T.no_Unlike_region
  · exact T.no_Unlike_here
  · exact T.no_Unlike_there
theorem sc_TooMany : FnScope ["self", "what", "many", "limit"] ["self", "what", "many", "limit"] (defScope (inClass (top 12) 0)) := ⟨rfl, rfl, rfl, by decide +kernel, rfl, by decide +kernel, by decide +kernel⟩
theorem mk_TooMany (T : Tx K mg) : EMk P w K mg base "TooMany" 1 ["what", "many", "limit"] ["self", "what", "many", "limit"] (He.ga K "TooMany") := by
  obtain ⟨fd, h1, h2, h3, h4⟩ := T.in_TooMany
  refine ⟨T.g_TooMany, T.ec_TooMany, fun f hf => ?_, rfl, _, fd, h1, h2, FnG.of h3 sc_TooMany (fun h => spI_len h) (fun cd A fr s H vs Q E hr hgd h => ⟨_, (pss_cons (ps_ost (pv 0) (pv 1)) (pss_cons (ps_ost (pv 0) (pv 2)) (pss_one (ps_ost (pv 0) (pv 3))))), ini3 h⟩), h4⟩
  simp only [List.mem_cons, List.not_mem_nil, or_false] at hf
  rcases hf with rfl | rfl | rfl
  · exact T.no_TooMany_what
  · exact T.no_TooMany_many
  · exact T.no_TooMany_limit
theorem sc_NoName : FnScope ["self", "name"] ["self", "name"] (defScope (inClass (top 14) 0)) := ⟨rfl, rfl, rfl, by decide +kernel, rfl, by decide +kernel, by decide +kernel⟩
theorem mk_NoName (T : Tx K mg) : EMk P w K mg base "NoName" 1 ["name"] ["self", "name"] (He.ga K "NoName") := by
  obtain ⟨fd, h1, h2, h3, h4⟩ := T.in_NoName
  refine ⟨T.g_NoName, T.ec_NoName, fun f hf => ?_, rfl, _, fd, h1, h2, FnG.of h3 sc_NoName (fun h => spI_len h) (fun cd A fr s H vs Q E hr hgd h => ⟨_, (pss_one (ps_ost (pv 0) (pv 1))), ini1 h⟩), h4⟩
  simp only [List.mem_cons, List.not_mem_nil, or_false] at hf
  rw [hf]; exact T.no_NoName_name
end
abbrev s_law_pen : Stmt := top 18
theorem sc_law_pen : FnScope ["script", "fold", "cell"] ["script"] (defScope s_law_pen) := ⟨rfl, rfl, rfl, by decide +kernel, rfl, by decide +kernel, by decide +kernel⟩
abbrev s_law_draw : Stmt := top 19
theorem sc_law_draw : FnScope ["pen", "many", "cell", "digit", "blend"] ["pen", "many"] (defScope s_law_draw) := ⟨rfl, rfl, rfl, by decide +kernel, rfl, by decide +kernel, by decide +kernel⟩
abbrev s_law_pick : Stmt := top 20
theorem sc_law_pick : FnScope ["pen", "some"] ["pen", "some"] (defScope s_law_pick) := ⟨rfl, rfl, rfl, by decide +kernel, rfl, by decide +kernel, by decide +kernel⟩
abbrev s_law_one : Stmt := top 21
theorem sc_law_one : FnScope ["kind", "a", "b", "c", "e"] ["kind", "a", "b", "c"] (defScope s_law_one) := ⟨rfl, rfl, rfl, by decide +kernel, rfl, by decide +kernel, by decide +kernel⟩
abbrev s_law_more : Stmt := top 22
theorem sc_law_more : FnScope ["kind", "a", "b", "c", "e"] ["kind", "a", "b", "c"] (defScope s_law_more) := ⟨rfl, rfl, rfl, by decide +kernel, rfl, by decide +kernel, by decide +kernel⟩
abbrev s_law_kinds : Stmt := top 23
theorem sc_law_kinds : FnScope ["e", "found"] ["e"] (defScope s_law_kinds) := ⟨rfl, rfl, rfl, by decide +kernel, rfl, by decide +kernel, by decide +kernel⟩
abbrev s_law : Stmt := top 24
theorem sc_law : FnScope ["script", "pen", "menu", "kind", "a", "b", "c", "dues", "e", "fields", "many", "k"] ["script"] (defScope s_law) := ⟨rfl, rfl, rfl, by decide +kernel, rfl, by decide +kernel, by decide +kernel⟩
section
variable {P : Program} {w : World} {K : PySem.W.Frag} {mg : Str → Option Value} {base : Heap}
theorem ok_law_pen (T : Tx K mg) (F : Top K mg "_law_pen" s_law_pen ["script"]) :
    Def P w K mg base "_law_pen" 1 ["script"] (spPen K) := by
  refine Def.of F sc_law_pen (fun h => ?_) fun f cd A fr s H vs Q E hr hgd h => ?_
  · obtain ⟨a, ns, rfl, _⟩ := h
    rfl
  obtain ⟨a, ns, rfl, hS, hl, k⟩ := h
  refine ⟨_, (pss_cons (ps_set (i := 1) sc_law_pen.nd rfl (Or.inl rfl) pe_int)
      (pss_cons (ps_for (passes_of rfl) rfl (kPiL K (pv 0)) (pg_name (i := 2) sc_law_pen.nd rfl (Or.inl rfl))
      (pss_one (ps_set (i := 1) sc_law_pen.nd rfl (Or.inl rfl) (pe_op op_mod (pe_callTy call_int1 (by rfl) T.n_int bt_int (pa_cons (pe_op op_add (pe_op op_mul (pv 1) pe_int) (pv 2)) pa_nil)) pe_int))))
      (pss_one (ps_ret (pe_disp (pps_cons pe_str (pe_callTy (kList K) (by rfl) T.n_list bt_list (pa_cons (pv 0) pa_nil)) (pps_cons pe_str pe_int (pps_cons pe_str pe_int (pps_cons pe_str pe_int (pps_cons pe_str (pv 1) pps_nil))))) (by rfl) (by rfl) (fun z => by cases z) (by decide)))))), ?_⟩
  refine ⟨_, rfl, a, rfl, ⟨_, hS⟩, for_list (K := K) (a := a) (xs := ns.map V.int) (fun i σ H2 => ∃ (f : Int) (v : Option V),
    σ = [some (.ref a), some (.int f), v] ∧ H2 = H ∧ 0 ≤ f ∧ f < 4294967296) ⟨0, none, rfl, rfl, by decide, by decide⟩ ?_ ?_ ?_⟩
  · rintro i σ H2 _ ⟨f, v, rfl, rfl, _⟩
    exact hS
  · rintro i y σ H2 hi ⟨f, v, rfl, rfl, h0, h1⟩
    obtain ⟨z, rfl⟩ : ∃ z, y = V.int z := by
      rw [List.getElem?_map] at hi
      cases e : ns[i]? with
      | none => rw [e] at hi; cases hi
      | some z => rw [e] at hi; exact ⟨z, (Option.some.inj hi).symm⟩
    refine ⟨_, rfl, _, _, rfl, rfl, Or.inl ⟨by omega, by omega⟩, ?_⟩
    refine ⟨_, rfl, _, _, rfl, rfl, ?_⟩
    refine Or.inl ⟨_, rfl, ?_⟩
    refine ⟨_, _, rfl, rfl, (show (0 : Int) < 1000000007 by decide), ?_⟩
    refine ⟨_, _, rfl, rfl, Int.emod_nonneg _ (by decide), ?_⟩
    have := Int.emod_lt_of_pos (f * 43 + z) (show (0 : Int) < 1000000007 by decide)
    omega
  · rintro σ H2 ⟨f, v, rfl, rfl, h0, h1⟩
    intro p hp
    refine ⟨_, rfl, _, _, rfl, Or.inl ((sameNew hp).seq hS), fun c hc => ?_⟩
    refine ⟨_, rfl, ?_⟩
    have ncp : c ≠ p := fun z => by rw [z, upd_same] at hc; cases hc
    refine ⟨by rw [upd_ne (Ne.symm ncp)]; exact upd_same, penK c 0 0 0 f, rfl, (by show 5 ≤ 15; decide), ?_⟩
    rw [pen_merge]
    have hc' : H2 c = none := by rw [upd_ne ncp] at hc; exact hc
    refine k p _ (fun b o e => ?_) hp ⟨c, 0, 0, 0, f, ns, upd_same, ?_, by omega, by omega, hl, by omega, by omega, by omega, h0, h1⟩
    · rw [upd_ne (ne_of_none e hp), upd_ne (ne_of_none e hc'), upd_ne (ne_of_none e hp)]
      exact e
    · rw [upd_ne ncp, upd_same]
theorem ok_law_draw (T : Tx K mg) (F : Top K mg "_law_draw" s_law_draw ["pen", "many"]) :
    Def P w K mg base "_law_draw" 1 ["pen", "many"] spDraw := by
  refine Def.of F sc_law_draw (fun h => ?_) fun f cd A fr s H vs Q E hr hgd h => ?_
  · obtain ⟨a, ns, m, rfl, _⟩ := h
    rfl
  obtain ⟨p, n, m, rfl, ⟨c, i, dg, ct, fo, ns, h1, h2, i0, i1, nl, d0, c0, c1, f0, f1⟩, hn, m0, m1, k⟩ := h
  have npc : c ≠ p := fun z => by rw [z, h1] at h2; cases h2
  have G : ∀ {H' : Hp} {key : Str} {i dg ct fo : Int} {v : V}, H' p = some (.dK (penK c i dg ct fo)) → valV (penK c i dg ct fo) (Sum.inr key) = some v → DGet H' p (.str key) (some v) := fun {H' key i dg ct fo v} e l => by
    have q := DGet.k (k := Sum.inr key) e
    rw [l] at q
    exact q
  have Pu : ∀ {H' : Hp} {key : Str} {i dg ct fo i' dg' ct' fo' : Int} {v : V}, H' p = some (.dK (penK c i dg ct fo)) → putK (penK c i dg ct fo) (Sum.inr key) v = penK c i' dg' ct' fo' →
      DPut H' p (.str key) v (upd H' p (.dK (penK c i' dg' ct' fo'))) := fun {H' key i dg ct fo i' dg' ct' fo' v} e l => by
    have q := DPut.k (k := Sum.inr key) (v := v) e (show 5 < sizeLine by decide)
    rw [l] at q
    exact q
  -- the end of each way: the pen as it is then
  have fin : ∀ {i' dg' fo' r : Int} {H' : Hp}, But p H H' → H' p = some (.dK (penK c i' dg' (ct + 1) fo')) → 0 ≤ i' → i' ≤ (ns.length : Int) → 0 ≤ dg' → 0 ≤ fo' → fo' < 4294967296 → 0 ≤ r → r < m → Q (.int r) H' :=
    fun {i' dg' fo' r H'} b e a1 a2 a3 a4 a5 a6 a7 => k r H' a6 a7 b ⟨c, i', dg', ct + 1, fo', ns, e, b c _ h2 npc, a1, a2, nl, a3, by omega, by omega, a4, a5⟩
  refine ⟨_, (pss_cons (ps_dput (hu_of hr) (pv 0) pe_str (pe_op op_add (pe_dget (hu_of hr) (pv 0) pe_str (fun _ _ => rfl)) pe_int) rfl)
      (pss_mid (ps_if (PW.pt (pw_and (pt_cmpR op_eq (pe_dget (hu_of hr) (pv 0) pe_str (fun _ _ => rfl)) pe_int (nomark _)) (pw_and1 (pt_cmpR op_lt (pe_dget (hu_of hr) (pv 0) pe_str (fun _ _ => rfl)) (pe_callB (kLen K) (by rfl) T.n_len bt_len (pa_cons (pe_dget (hu_of hr) (pv 0) pe_str (fun _ _ => rfl)) pa_nil)) (nomark _)))))
      (pss_cons (ps_set (i := 2) sc_law_draw.nd rfl (Or.inl rfl) (pe_ix (kIx K) (pe_dget (hu_of hr) (pv 0) pe_str (fun _ _ => rfl)) (pe_dget (hu_of hr) (pv 0) pe_str (fun _ _ => rfl)) (fun _ _ => rfl)))
      (pss_cons (ps_dput (hu_of hr) (pv 0) pe_str (pe_op op_add (pe_dget (hu_of hr) (pv 0) pe_str (fun _ _ => rfl)) pe_int) rfl)
      (pss_one (ps_if (pt_cmpR op_ge (pv 2) (pe_op op_pow pe_int pe_int) (nomark _))
      (pss_one (ps_dput (hu_of hr) (pv 0) pe_str (pe_op op_sub (pv 2) (pe_op op_pow pe_int pe_int)) rfl))
      (pss_one (ps_dput (hu_of hr) (pv 0) pe_str (pe_op op_mod (pe_callTy call_int1 (by rfl) T.n_int bt_int (pa_cons (pe_op op_add (pe_op op_mul (pe_dget (hu_of hr) (pv 0) pe_str (fun _ _ => rfl)) pe_int) (pv 2)) pa_nil)) pe_int) rfl))))))
      pss_nil)
      (pss_cons (ps_if (pt_cmpR op_gt (pe_dget (hu_of hr) (pv 0) pe_str (fun _ _ => rfl)) pe_int (nomark _))
      (pss_cons (ps_set (i := 3) sc_law_draw.nd rfl (Or.inl rfl) (pe_op op_mod (pe_callTy call_int1 (by rfl) T.n_int bt_int (pa_cons (pe_dget (hu_of hr) (pv 0) pe_str (fun _ _ => rfl)) pa_nil)) (pv 1)))
      (pss_cons (ps_dput (hu_of hr) (pv 0) pe_str (pe_op op_fdiv (pe_dget (hu_of hr) (pv 0) pe_str (fun _ _ => rfl)) (pv 1)) rfl)
      (pss_one (ps_ret (pv 3)))))
      pss_nil)
      (pss_cons (ps_set (i := 4) sc_law_draw.nd rfl (Or.inl rfl) (pe_op op_add (pe_op op_add (pe_dget (hu_of hr) (pv 0) pe_str (fun _ _ => rfl)) (pe_op op_mul (pe_dget (hu_of hr) (pv 0) pe_str (fun _ _ => rfl)) pe_int)) pe_int))
      (pss_one (ps_ret (pe_op op_mod (pe_op op_fdiv (pe_callTy call_int1 (by rfl) T.n_int bt_int (pa_cons (pe_op op_mod (pe_op op_pow (pv 4) pe_int) pe_int) pa_nil)) pe_int) (pv 1)))))))), ?_⟩
  refine ⟨_, rfl, p, _, rfl, G h1 pen_count, _, _, rfl, rfl, ?_⟩
  refine ⟨_, rfl, p, _, rfl, Pu h1 pen_put_count, ?_⟩
  have hA : (upd H p (.dK (penK c i dg (ct + 1) fo))) p = some (.dK (penK c i dg (ct + 1) fo)) := upd_same
  have bA : But p H (upd H p (.dK (penK c i dg (ct + 1) fo))) := But.put
  generalize upd H p (.dK (penK c i dg (ct + 1) fo)) = HA at hA bA
  -- up to the word behind the if
  refine ⟨fun σ' H' => ∃ (v : Option V) (i' dg' fo' : Int), σ' = [some (.ref p), some (.int m), v, none, none] ∧ But p H H' ∧ H' p = some (.dK (penK c i' dg' (ct + 1) fo')) ∧
    0 ≤ i' ∧ i' ≤ (ns.length : Int) ∧ 0 ≤ dg' ∧ 0 ≤ fo' ∧ fo' < 4294967296, ?_, ?_⟩
  · refine ⟨_, rfl, p, _, rfl, G hA pen_digits, rfl, _, rfl, ?_⟩
    refine ite2 (fun q1 => ?_) (fun q1 => ?_)
    · refine ⟨_, rfl, p, _, rfl, G hA pen_at, _, rfl, p, _, rfl, G hA pen_cells, c, _, rfl, Or.inl (SqL.of (bA c _ h2 npc)), _, _, rfl, rfl, _, rfl, ?_⟩
      refine ite2 (fun q2 => ?_) (fun q2 => ?_)
      · rw [List.length_map] at q2
        have q3 : i < (ns.length : Int) := of_decide_eq_true q2
        obtain ⟨j, rfl⟩ : ∃ j : Nat, i = (j : Int) := ⟨i.toNat, by omega⟩
        have hj : j < ns.length := by omega
        have hz : (ns.map V.int)[j]? = some (V.int ns[j]) := by rw [List.getElem?_map, List.getElem?_eq_getElem hj] <;> rfl
        refine ⟨_, rfl, p, _, rfl, G hA pen_cells, _, rfl, p, _, rfl, G hA pen_at, Or.inl ⟨c, _, _, _, rfl, rfl, SqL.of (bA c _ h2 npc), atI_nat hz, ?_⟩⟩
        refine ⟨_, rfl, p, _, rfl, G hA pen_at, _, _, rfl, rfl, ?_⟩
        refine ⟨_, rfl, p, _, rfl, Pu hA pen_put_at, ?_⟩
        have hB : (upd HA p (.dK (penK c ((j : Int) + 1) dg (ct + 1) fo))) p = some (.dK (penK c ((j : Int) + 1) dg (ct + 1) fo)) := upd_same
        have bB : But p H (upd HA p (.dK (penK c ((j : Int) + 1) dg (ct + 1) fo))) := bA.trans But.put
        generalize upd HA p (.dK (penK c ((j : Int) + 1) dg (ct + 1) fo)) = HB at hB bB
        refine ⟨_, rfl, _, _, rfl, rfl, ⟨by decide, by decide, by decide⟩, _, _, rfl, rfl, _, rfl, ?_⟩
        refine ite2 (fun q4 => ?_) (fun q4 => ?_)
        · refine ⟨_, rfl, _, _, rfl, rfl, ⟨by decide, by decide, by decide⟩, _, _, rfl, rfl, ?_⟩
          refine ⟨_, rfl, p, _, rfl, Pu hB pen_put_digits, ?_⟩
          exact ⟨_, _, _, _, rfl, bB.trans But.put, upd_same, by omega, by omega, by have := of_decide_eq_true q4; omega, f0, f1⟩
        · refine ⟨_, rfl, p, _, rfl, G hB pen_fold, _, _, rfl, rfl, Or.inl ⟨by omega, by omega⟩, _, rfl, _, _, rfl, rfl, Or.inl ⟨_, rfl, _, _, rfl, rfl, (show (0 : Int) < 2147483587 by decide), ?_⟩⟩
          refine ⟨_, rfl, p, _, rfl, Pu hB pen_put_fold, ?_⟩
          have e1 := Int.emod_nonneg (fo * 71993 + ns[j]) (show (2147483587 : Int) ≠ 0 by decide)
          have e2 := Int.emod_lt_of_pos (fo * 71993 + ns[j]) (show (0 : Int) < 2147483587 by decide)
          exact ⟨_, _, _, _, rfl, bB.trans But.put, upd_same, by omega, by omega, d0, e1, by omega⟩
      · exact ⟨none, i, dg, fo, rfl, bA, hA, i0, i1, d0, f0, f1⟩
    · exact ⟨none, i, dg, fo, rfl, bA, hA, i0, i1, d0, f0, f1⟩
  · rintro σ' H' ⟨v, i', dg', fo', rfl, bC, hC, a1, a2, a3, a4, a5⟩
    refine ⟨_, rfl, p, _, rfl, G hC pen_digits, _, _, rfl, rfl, _, rfl, ?_⟩
    refine ite2 (fun q1 => ?_) (fun q1 => ?_)
    · refine ⟨_, rfl, p, _, rfl, G hC pen_digits, Or.inl ⟨_, rfl, _, rfl, _, _, rfl, rfl, m0, ?_⟩⟩
      refine ⟨_, rfl, p, _, rfl, G hC pen_digits, _, rfl, _, _, rfl, rfl, ⟨m0, by omega⟩, ?_⟩
      refine ⟨_, rfl, p, _, rfl, Pu hC pen_put_digits, ?_⟩
      exact ⟨_, rfl, fin (bC.trans But.put) upd_same a1 a2 (Int.ediv_nonneg a3 (Int.le_of_lt m0)) a4 a5 (Int.emod_nonneg _ (by omega)) (Int.emod_lt_of_pos _ m0)⟩
    · have big : ct < 1000000000000 := by unfold penMax at hn; omega
      refine ⟨_, rfl, p, _, rfl, G hC pen_fold, _, rfl, p, _, rfl, G hC pen_count, _, _, rfl, rfl, Or.inr ⟨by decide, by decide⟩, _, _, rfl, rfl, _, _, rfl, rfl, ?_⟩
      refine ⟨_, rfl, _, _, rfl, rfl, ⟨by decide, by decide, by omega⟩, _, _, rfl, rfl, (show (0 : Int) < 2305843009213693951 by decide), Or.inl ⟨_, rfl, _, _, rfl, rfl, ⟨by decide, by decide⟩, _, rfl, _, _, rfl, rfl, m0, ?_⟩⟩
      exact fin bC hC a1 a2 a3 a4 a5 (Int.emod_nonneg _ (by omega)) (Int.emod_lt_of_pos _ m0)
theorem ok_law_pick (T : Tx K mg) (F : Cl.Top K mg "_law_pick" s_law_pick ["pen", "some"]) (D_law_draw : Def P w K mg base "_law_draw" 1 ["pen", "many"] spDraw) :
    Def P w K mg base "_law_pick" 2 ["pen", "some"] spPick := by
  refine Def.of F sc_law_pick (fun h => ?_) fun f cd A fr s H vs Q E hr hgd h => ?_
  · obtain ⟨a, l, n, xs, rfl, _⟩ := h
    rfl
  obtain ⟨p, l, n, xs, rfl, hp, hn, hx, h0, hl, k⟩ := h
  refine ⟨_, (pss_one (ps_ret (pe_ix (kIx K) (pv 1) (pe_d D_law_draw (hr.mono (by decide)) hgd (by rfl) passNo (pa_cons (pv 0) (pa_cons (pe_callB (kLen K) (by rfl) T.n_len bt_len (pa_cons (pv 1) pa_nil)) pa_nil))) (fun _ _ => rfl)))), ?_⟩
  have sq : SqL K H l xs ∨ SqT K H l xs := hx.elim (fun z => Or.inl (SqL.of z)) (fun z => Or.inr (SqT.of z))
  refine ⟨_, rfl, _, rfl, _, rfl, l, xs, rfl, sq, p, n, _, rfl, hp, hn, by omega, by omega, fun r H' r0 r1 b hp' => ?_⟩
  have kd := hp.kd b
  obtain ⟨j, rfl⟩ : ∃ j : Nat, r = (j : Int) := ⟨r.toNat, by omega⟩
  have hj : j < xs.length := by omega
  have ej : xs[j]? = some xs[j] := List.getElem?_eq_getElem hj
  have fin := k xs[j] H' (List.getElem_mem hj) b hp'
  rcases hx with hx | hx
  · exact Or.inl ⟨l, xs, _, _, rfl, rfl, SqL.of (kd _ _ rfl hx), atI_nat ej, fin⟩
  · exact Or.inr (Or.inl ⟨l, xs, _, _, rfl, rfl, SqT.of (kd _ _ rfl hx), atI_nat ej, fin⟩)
/-- e at a: an exception of kind k -/
def ExK (K : PySem.W.Frag) (H : Hp) (a : Addr) (k : Nat) : Prop := ∃ d, H a = some (exo a (cls K k) d) ∧ ∀ d', d = some d' → ∃ fs, H d' = some (exd d' fs)
theorem ExK.same {K : PySem.W.Frag} {H H' : Hp} {a : Addr} {k : Nat} (h : ExK K H a k) (e : Same H H') : ExK K H' a k := by
  obtain ⟨d, h1, h2⟩ := h
  refine ⟨d, e _ _ h1, fun d' q => ?_⟩
  obtain ⟨fs, h3⟩ := h2 d' q
  exact ⟨fs, e _ _ h3⟩
theorem ExK.of {K : PySem.W.Frag} {H : Hp} {a : Addr} {k : Nat} {fs : List (Str × V)} (h : ExAt H a (cls K k) fs) : ExK K H a k := by
  obtain ⟨d, _, h1, h2⟩ := h
  refine ⟨some d, h1, fun d' q => ?_⟩
  cases q
  exact ⟨fs, h2⟩
def spKinds (K : PySem.W.Frag) : Sp := fun vs H Q _ => ∃ (a : Addr) (k : Nat), vs = [.ref a] ∧ k < 15 ∧ ExK K H a k ∧
  ∀ (l : Addr) (H' : Hp), Same H H' → H' l = some (.lst ((List.range 15).map fun j => V.bl (decide (j = k)))) → Q (.ref l) H'
/-- isinstance(e, the j-th class) -/
theorem is_k {K : PySem.W.Frag} {mg : Str → Option Value} (T : Tx K mg) {H : Hp} {a : Addr} {k : Nat} (hk : k < 15) (h : ExK K H a k) {σ : St} {i : Nat} {Q : VK} (j : Nat) (hj : j < 15)
    (hs : σ[i]? = some (some (.ref a))) (q : Q (.bl (decide (j = k))) H) : tCB (rIsX K) (tCons (tVar i) (tCons (tC (.ref (cls K j))) tNil)) σ H Q := by
  obtain ⟨d, h1, h2⟩ := h
  exact ⟨_, hs, a, cls K k, d, _, _, _, rfl, h1, h2, T.ec k hk, fun u r => r, T.kit k j hk hj, q⟩
theorem ok_law_kinds (T : Tx K mg) (F : Cl.Top K mg "_law_kinds" s_law_kinds ["e"]) :
    Def P w K mg base "_law_kinds" 1 ["e"] (spKinds K) := by
  refine Def.of F sc_law_kinds (fun h => ?_) fun f cd A fr s H vs Q E hr hgd h => ?_
  · obtain ⟨a, k, rfl, _⟩ := h
    rfl
  obtain ⟨a, k, rfl, hk, hx, fin⟩ := h
  refine ⟨_, (pss_cons (ps_set (i := 1) sc_law_kinds.nd rfl (Or.inl rfl) (pe_lst (pa_cons (pe_callB call_isX (by rfl) T.n_isinstance bt_isinstance (pa_cons (pv 0) (pa_cons (pe_gref (by rfl) T.g_BadName) pa_nil))) (pa_cons (pe_callB call_isX (by rfl) T.n_isinstance bt_isinstance (pa_cons (pv 0) (pa_cons (pe_gref (by rfl) T.g_TakenName) pa_nil))) (pa_cons (pe_callB call_isX (by rfl) T.n_isinstance bt_isinstance (pa_cons (pv 0) (pa_cons (pe_gref (by rfl) T.g_BadCell) pa_nil))) (pa_cons (pe_callB call_isX (by rfl) T.n_isinstance bt_isinstance (pa_cons (pv 0) (pa_cons (pe_gref (by rfl) T.g_NotThere) pa_nil))) pa_nil))))))
      (pss_cons (ps_set (i := 1) sc_law_kinds.nd rfl (Or.inl rfl) (pe_op op_cat (pv 1) (pe_lst (pa_cons (pe_callB call_isX (by rfl) T.n_isinstance bt_isinstance (pa_cons (pv 0) (pa_cons (pe_gref (by rfl) T.g_BadLand) pa_nil))) (pa_cons (pe_callB call_isX (by rfl) T.n_isinstance bt_isinstance (pa_cons (pv 0) (pa_cons (pe_gref (by rfl) T.g_BadArrangement) pa_nil))) (pa_cons (pe_callB call_isX (by rfl) T.n_isinstance bt_isinstance (pa_cons (pv 0) (pa_cons (pe_gref (by rfl) T.g_BadText) pa_nil))) pa_nil))))))
      (pss_cons (ps_set (i := 1) sc_law_kinds.nd rfl (Or.inl rfl) (pe_op op_cat (pv 1) (pe_lst (pa_cons (pe_callB call_isX (by rfl) T.n_isinstance bt_isinstance (pa_cons (pv 0) (pa_cons (pe_gref (by rfl) T.g_BadNumber) pa_nil))) (pa_cons (pe_callB call_isX (by rfl) T.n_isinstance bt_isinstance (pa_cons (pv 0) (pa_cons (pe_gref (by rfl) T.g_NoMove) pa_nil))) (pa_cons (pe_callB call_isX (by rfl) T.n_isinstance bt_isinstance (pa_cons (pv 0) (pa_cons (pe_gref (by rfl) T.g_NotKept) pa_nil))) pa_nil))))))
      (pss_cons (ps_set (i := 1) sc_law_kinds.nd rfl (Or.inl rfl) (pe_op op_cat (pv 1) (pe_lst (pa_cons (pe_callB call_isX (by rfl) T.n_isinstance bt_isinstance (pa_cons (pv 0) (pa_cons (pe_gref (by rfl) T.g_Unlike) pa_nil))) (pa_cons (pe_callB call_isX (by rfl) T.n_isinstance bt_isinstance (pa_cons (pv 0) (pa_cons (pe_gref (by rfl) T.g_TooMany) pa_nil))) (pa_cons (pe_callB call_isX (by rfl) T.n_isinstance bt_isinstance (pa_cons (pv 0) (pa_cons (pe_gref (by rfl) T.g_NoName) pa_nil))) pa_nil))))))
      (pss_one (ps_ret (pe_op op_cat (pv 1) (pe_lst (pa_cons (pe_callB call_isX (by rfl) T.n_isinstance bt_isinstance (pa_cons (pv 0) (pa_cons (pe_gref (by rfl) T.g_NothingToUndo) pa_nil))) (pa_cons (pe_callB call_isX (by rfl) T.n_isinstance bt_isinstance (pa_cons (pv 0) (pa_cons (pe_gref (by rfl) T.g_NothingToRedo) pa_nil))) pa_nil)))))))))), ?_⟩
  refine is_k T hk hx 0 (by decide) rfl (is_k T hk hx 1 (by decide) rfl (is_k T hk hx 2 (by decide) rfl (is_k T hk hx 3 (by decide) rfl ⟨(by show 4 ≤ sizeLine; decide), fun l1 n1 => ?_⟩)))
  generalize e1 : [V.bl (decide (0 = k)), V.bl (decide (1 = k)), V.bl (decide (2 = k)), V.bl (decide (3 = k))] = L1
  have x1 := hx.same (sameNew (o := HO.lst L1) n1)
  refine ⟨_, rfl, is_k T hk x1 4 (by decide) rfl (is_k T hk x1 5 (by decide) rfl (is_k T hk x1 6 (by decide) rfl ⟨(by show 3 ≤ sizeLine; decide), fun l2 n2 => ?_⟩))⟩
  generalize e2 : [V.bl (decide (4 = k)), V.bl (decide (5 = k)), V.bl (decide (6 = k))] = L2
  refine ⟨l1, l2, L1, L2, rfl, rfl, by rw [upd_ne (ne_of_none upd_same n2)]; exact upd_same, upd_same, (by rw [← e1, ← e2]; show 7 ≤ sizeLine; decide), fun l3 n3 => ?_⟩
  have x2 := (x1.same (sameNew n2)).same (sameNew (o := HO.lst (L1 ++ L2)) n3)
  refine ⟨_, rfl, is_k T hk x2 7 (by decide) rfl (is_k T hk x2 8 (by decide) rfl (is_k T hk x2 9 (by decide) rfl ⟨(by show 3 ≤ sizeLine; decide), fun l4 n4 => ?_⟩))⟩
  generalize e3 : [V.bl (decide (7 = k)), V.bl (decide (8 = k)), V.bl (decide (9 = k))] = L3
  refine ⟨l3, l4, L1 ++ L2, L3, rfl, rfl, by rw [upd_ne (ne_of_none upd_same n4)]; exact upd_same, upd_same, (by rw [← e1, ← e2, ← e3]; show 10 ≤ sizeLine; decide), fun l5 n5 => ?_⟩
  have x3 := (x2.same (sameNew n4)).same (sameNew (o := HO.lst (L1 ++ L2 ++ L3)) n5)
  refine ⟨_, rfl, is_k T hk x3 10 (by decide) rfl (is_k T hk x3 11 (by decide) rfl (is_k T hk x3 12 (by decide) rfl ⟨(by show 3 ≤ sizeLine; decide), fun l6 n6 => ?_⟩))⟩
  generalize e4 : [V.bl (decide (10 = k)), V.bl (decide (11 = k)), V.bl (decide (12 = k))] = L4
  refine ⟨l5, l6, L1 ++ L2 ++ L3, L4, rfl, rfl, by rw [upd_ne (ne_of_none upd_same n6)]; exact upd_same, upd_same, (by rw [← e1, ← e2, ← e3, ← e4]; show 13 ≤ sizeLine; decide), fun l7 n7 => ?_⟩
  have x4 := (x3.same (sameNew n6)).same (sameNew (o := HO.lst (L1 ++ L2 ++ L3 ++ L4)) n7)
  refine ⟨_, rfl, is_k T hk x4 13 (by decide) rfl (is_k T hk x4 14 (by decide) rfl ⟨(by show 2 ≤ sizeLine; decide), fun l8 n8 => ?_⟩)⟩
  generalize e5 : [V.bl (decide (13 = k)), V.bl (decide (14 = k))] = L5
  refine ⟨l7, l8, L1 ++ L2 ++ L3 ++ L4, L5, rfl, rfl, by rw [upd_ne (ne_of_none upd_same n8)]; exact upd_same, upd_same, (by rw [← e1, ← e2, ← e3, ← e4, ← e5]; show 15 ≤ sizeLine; decide), fun l9 n9 => ?_⟩
  refine fin l9 _ ((((((((((sameNew n1).trans (sameNew n2)).trans (sameNew n3)).trans (sameNew n4)).trans (sameNew n5)).trans (sameNew n6)).trans (sameNew n7)).trans (sameNew n8)).trans (sameNew n9))) ?_
  rw [upd_same, ← e1, ← e2, ← e3, ← e4, ← e5]
  rfl
def spOne (K : PySem.W.Frag) (lo : Nat) : Sp := fun vs H Q _ => ∃ (k : Nat) (va vb vc : V), vs = [.int (k : Int), va, vb, vc] ∧ lo ≤ k ∧ k < 15 ∧
  ∀ (t e f : Addr) (H' : Hp), Same H H' → H' t = some (.tup [.ref e, .ref f]) → ExK K H' e k → H' f = some (.tup ([va, vb, vc].take (nf.getD k 0))) → Q (.ref t) H'
theorem exAt_same {H H' : Hp} {a C : Addr} {fs : List (Str × V)} (h : ExAt H a C fs) (e : Same H H') : ExAt H' a C fs := by
  obtain ⟨d, n, h1, h2⟩ := h
  exact ⟨d, n, e _ _ h1, e _ _ h2⟩
theorem ok_law_more (T : Tx K mg) (F : Cl.Top K mg "_law_more" s_law_more ["kind", "a", "b", "c"]) :
    Def P w K mg base "_law_more" 3 ["kind", "a", "b", "c"] (spOne K 7) := by
  have E_BadNumber : EMk P w K mg base "BadNumber" 1 _ _ _ := mk_BadNumber T
  have E_NoMove : EMk P w K mg base "NoMove" 1 _ _ _ := mk_NoMove T
  have E_NotKept : EMk P w K mg base "NotKept" 1 _ _ _ := mk_NotKept T
  have E_Unlike : EMk P w K mg base "Unlike" 1 _ _ _ := mk_Unlike T
  have E_TooMany : EMk P w K mg base "TooMany" 1 _ _ _ := mk_TooMany T
  have E_NoName : EMk P w K mg base "NoName" 1 _ _ _ := mk_NoName T
  refine Def.of F sc_law_more (fun h => ?_) fun f cd A fr s H vs Q E hr hgd h => ?_
  · obtain ⟨k, va, vb, vc, rfl, _⟩ := h
    rfl
  obtain ⟨k, va, vb, vc, rfl, hlo, hk, fin⟩ := h
  refine ⟨_, (pss_cons (ps_if (pt_cmpR op_eq (pv 0) pe_int (nomark _))
      (pss_cons (ps_set (i := 4) sc_law_more.nd rfl (Or.inl rfl) (pe_mkE E_BadNumber (hr.mono (by decide)) hgd (by rfl) (pa_cons (pv 1) (pa_cons (pv 2) pa_nil))))
      (pss_one (ps_ret (pe_tup (pa_cons (pv 4) (pa_cons (pe_tup (pa_cons (pe_xfld (pv 4)) (pa_cons (pe_xfld (pv 4)) pa_nil))) pa_nil))))))
      pss_nil)
      (pss_cons (ps_if (pt_cmpR op_eq (pv 0) pe_int (nomark _))
      (pss_cons (ps_set (i := 4) sc_law_more.nd rfl (Or.inl rfl) (pe_mkE E_NoMove (hr.mono (by decide)) hgd (by rfl) (pa_cons (pv 1) (pa_cons (pv 2) pa_nil))))
      (pss_one (ps_ret (pe_tup (pa_cons (pv 4) (pa_cons (pe_tup (pa_cons (pe_xfld (pv 4)) (pa_cons (pe_xfld (pv 4)) pa_nil))) pa_nil))))))
      pss_nil)
      (pss_cons (ps_if (pt_cmpR op_eq (pv 0) pe_int (nomark _))
      (pss_cons (ps_set (i := 4) sc_law_more.nd rfl (Or.inl rfl) (pe_mkE E_NotKept (hr.mono (by decide)) hgd (by rfl) (pa_cons (pv 1) (pa_cons (pv 2) pa_nil))))
      (pss_one (ps_ret (pe_tup (pa_cons (pv 4) (pa_cons (pe_tup (pa_cons (pe_xfld (pv 4)) (pa_cons (pe_xfld (pv 4)) pa_nil))) pa_nil))))))
      pss_nil)
      (pss_cons (ps_if (pt_cmpR op_eq (pv 0) pe_int (nomark _))
      (pss_cons (ps_set (i := 4) sc_law_more.nd rfl (Or.inl rfl) (pe_mkE E_Unlike (hr.mono (by decide)) hgd (by rfl) (pa_cons (pv 1) (pa_cons (pv 2) (pa_cons (pv 3) pa_nil)))))
      (pss_one (ps_ret (pe_tup (pa_cons (pv 4) (pa_cons (pe_tup (pa_cons (pe_xfld (pv 4)) (pa_cons (pe_xfld (pv 4)) (pa_cons (pe_xfld (pv 4)) pa_nil)))) pa_nil))))))
      pss_nil)
      (pss_cons (ps_if (pt_cmpR op_eq (pv 0) pe_int (nomark _))
      (pss_cons (ps_set (i := 4) sc_law_more.nd rfl (Or.inl rfl) (pe_mkE E_TooMany (hr.mono (by decide)) hgd (by rfl) (pa_cons (pv 1) (pa_cons (pv 2) (pa_cons (pv 3) pa_nil)))))
      (pss_one (ps_ret (pe_tup (pa_cons (pv 4) (pa_cons (pe_tup (pa_cons (pe_xfld (pv 4)) (pa_cons (pe_xfld (pv 4)) (pa_cons (pe_xfld (pv 4)) pa_nil)))) pa_nil))))))
      pss_nil)
      (pss_cons (ps_if (pt_cmpR op_eq (pv 0) pe_int (nomark _))
      (pss_cons (ps_set (i := 4) sc_law_more.nd rfl (Or.inl rfl) (pe_mkE E_NoName (hr.mono (by decide)) hgd (by rfl) (pa_cons (pv 1) pa_nil)))
      (pss_one (ps_ret (pe_tup (pa_cons (pv 4) (pa_cons (pe_tup (pa_cons (pe_xfld (pv 4)) pa_nil)) pa_nil))))))
      pss_nil)
      (pss_one (ps_ret (pe_tup (pa_cons (pe_ifExp (pt_cmpR op_eq (pv 0) pe_int (nomark _)) (pe_mkE0 T.g_NothingToUndo T.ec_NothingToUndo T.xq_NothingToUndo (by rfl)) (pe_mkE0 T.g_NothingToRedo T.ec_NothingToRedo T.xq_NothingToRedo (by rfl))) (pa_cons (pe_tup pa_nil) pa_nil))))))))))), ?_⟩
  match k, hlo, hk with
  | 7, _, _ =>
    refine ⟨_, rfl, rfl, _, rfl, ?_⟩
    refine ite2 (fun q => ?_) (fun q => absurd (by decide) q)
    refine ⟨_, rfl, _, rfl, rfl, (by show 2 ≤ 1000; decide), fun e H0 n0 ss x => ?_⟩
    refine ⟨_, rfl, _, rfl, e, He.ga K "BadNumber", _, _, rfl, x, T.ec_BadNumber, T.no_BadNumber_what, rfl, _, rfl, e, He.ga K "BadNumber", _, _, rfl, x, T.ec_BadNumber, T.no_BadNumber_number, rfl, (by show 2 ≤ sizeLine; decide), fun f nf => ⟨(by show 2 ≤ sizeLine; decide), fun t nt => ?_⟩⟩
    exact fin t e f _ ((ss.trans (sameNew nf)).trans (sameNew nt)) upd_same (((ExK.of x).same (sameNew nf)).same (sameNew nt)) (by rw [upd_ne (ne_of_none upd_same nt)]; exact upd_same)
  | 8, _, _ =>
    refine ⟨_, rfl, rfl, _, rfl, ?_⟩
    refine ite2 (fun q => absurd q (by decide)) (fun q => ?_)
    refine ⟨_, rfl, rfl, _, rfl, ?_⟩
    refine ite2 (fun q => ?_) (fun q => absurd (by decide) q)
    refine ⟨_, rfl, _, rfl, rfl, (by show 2 ≤ 1000; decide), fun e H0 n0 ss x => ?_⟩
    refine ⟨_, rfl, _, rfl, e, He.ga K "NoMove", _, _, rfl, x, T.ec_NoMove, T.no_NoMove_start, rfl, _, rfl, e, He.ga K "NoMove", _, _, rfl, x, T.ec_NoMove, T.no_NoMove_end, rfl, (by show 2 ≤ sizeLine; decide), fun f nf => ⟨(by show 2 ≤ sizeLine; decide), fun t nt => ?_⟩⟩
    exact fin t e f _ ((ss.trans (sameNew nf)).trans (sameNew nt)) upd_same (((ExK.of x).same (sameNew nf)).same (sameNew nt)) (by rw [upd_ne (ne_of_none upd_same nt)]; exact upd_same)
  | 9, _, _ =>
    refine ⟨_, rfl, rfl, _, rfl, ?_⟩
    refine ite2 (fun q => absurd q (by decide)) (fun q => ?_)
    refine ⟨_, rfl, rfl, _, rfl, ?_⟩
    refine ite2 (fun q => absurd q (by decide)) (fun q => ?_)
    refine ⟨_, rfl, rfl, _, rfl, ?_⟩
    refine ite2 (fun q => ?_) (fun q => absurd (by decide) q)
    refine ⟨_, rfl, _, rfl, rfl, (by show 2 ≤ 1000; decide), fun e H0 n0 ss x => ?_⟩
    refine ⟨_, rfl, _, rfl, e, He.ga K "NotKept", _, _, rfl, x, T.ec_NotKept, T.no_NotKept_promise, rfl, _, rfl, e, He.ga K "NotKept", _, _, rfl, x, T.ec_NotKept, T.no_NotKept_witness, rfl, (by show 2 ≤ sizeLine; decide), fun f nf => ⟨(by show 2 ≤ sizeLine; decide), fun t nt => ?_⟩⟩
    exact fin t e f _ ((ss.trans (sameNew nf)).trans (sameNew nt)) upd_same (((ExK.of x).same (sameNew nf)).same (sameNew nt)) (by rw [upd_ne (ne_of_none upd_same nt)]; exact upd_same)
  | 10, _, _ =>
    refine ⟨_, rfl, rfl, _, rfl, ?_⟩
    refine ite2 (fun q => absurd q (by decide)) (fun q => ?_)
    refine ⟨_, rfl, rfl, _, rfl, ?_⟩
    refine ite2 (fun q => absurd q (by decide)) (fun q => ?_)
    refine ⟨_, rfl, rfl, _, rfl, ?_⟩
    refine ite2 (fun q => absurd q (by decide)) (fun q => ?_)
    refine ⟨_, rfl, rfl, _, rfl, ?_⟩
    refine ite2 (fun q => ?_) (fun q => absurd (by decide) q)
    refine ⟨_, rfl, _, rfl, _, rfl, rfl, (by show 3 ≤ 1000; decide), fun e H0 n0 ss x => ?_⟩
    refine ⟨_, rfl, _, rfl, e, He.ga K "Unlike", _, _, rfl, x, T.ec_Unlike, T.no_Unlike_region, rfl, _, rfl, e, He.ga K "Unlike", _, _, rfl, x, T.ec_Unlike, T.no_Unlike_here, rfl, _, rfl, e, He.ga K "Unlike", _, _, rfl, x, T.ec_Unlike, T.no_Unlike_there, rfl, (by show 3 ≤ sizeLine; decide), fun f nf => ⟨(by show 2 ≤ sizeLine; decide), fun t nt => ?_⟩⟩
    exact fin t e f _ ((ss.trans (sameNew nf)).trans (sameNew nt)) upd_same (((ExK.of x).same (sameNew nf)).same (sameNew nt)) (by rw [upd_ne (ne_of_none upd_same nt)]; exact upd_same)
  | 11, _, _ =>
    refine ⟨_, rfl, rfl, _, rfl, ?_⟩
    refine ite2 (fun q => absurd q (by decide)) (fun q => ?_)
    refine ⟨_, rfl, rfl, _, rfl, ?_⟩
    refine ite2 (fun q => absurd q (by decide)) (fun q => ?_)
    refine ⟨_, rfl, rfl, _, rfl, ?_⟩
    refine ite2 (fun q => absurd q (by decide)) (fun q => ?_)
    refine ⟨_, rfl, rfl, _, rfl, ?_⟩
    refine ite2 (fun q => absurd q (by decide)) (fun q => ?_)
    refine ⟨_, rfl, rfl, _, rfl, ?_⟩
    refine ite2 (fun q => ?_) (fun q => absurd (by decide) q)
    refine ⟨_, rfl, _, rfl, _, rfl, rfl, (by show 3 ≤ 1000; decide), fun e H0 n0 ss x => ?_⟩
    refine ⟨_, rfl, _, rfl, e, He.ga K "TooMany", _, _, rfl, x, T.ec_TooMany, T.no_TooMany_what, rfl, _, rfl, e, He.ga K "TooMany", _, _, rfl, x, T.ec_TooMany, T.no_TooMany_many, rfl, _, rfl, e, He.ga K "TooMany", _, _, rfl, x, T.ec_TooMany, T.no_TooMany_limit, rfl, (by show 3 ≤ sizeLine; decide), fun f nf => ⟨(by show 2 ≤ sizeLine; decide), fun t nt => ?_⟩⟩
    exact fin t e f _ ((ss.trans (sameNew nf)).trans (sameNew nt)) upd_same (((ExK.of x).same (sameNew nf)).same (sameNew nt)) (by rw [upd_ne (ne_of_none upd_same nt)]; exact upd_same)
  | 12, _, _ =>
    refine ⟨_, rfl, rfl, _, rfl, ?_⟩
    refine ite2 (fun q => absurd q (by decide)) (fun q => ?_)
    refine ⟨_, rfl, rfl, _, rfl, ?_⟩
    refine ite2 (fun q => absurd q (by decide)) (fun q => ?_)
    refine ⟨_, rfl, rfl, _, rfl, ?_⟩
    refine ite2 (fun q => absurd q (by decide)) (fun q => ?_)
    refine ⟨_, rfl, rfl, _, rfl, ?_⟩
    refine ite2 (fun q => absurd q (by decide)) (fun q => ?_)
    refine ⟨_, rfl, rfl, _, rfl, ?_⟩
    refine ite2 (fun q => absurd q (by decide)) (fun q => ?_)
    refine ⟨_, rfl, rfl, _, rfl, ?_⟩
    refine ite2 (fun q => ?_) (fun q => absurd (by decide) q)
    refine ⟨_, rfl, rfl, (by show 1 ≤ 1000; decide), fun e H0 n0 ss x => ?_⟩
    refine ⟨_, rfl, _, rfl, e, He.ga K "NoName", _, _, rfl, x, T.ec_NoName, T.no_NoName_name, rfl, (by show 1 ≤ sizeLine; decide), fun f nf => ⟨(by show 2 ≤ sizeLine; decide), fun t nt => ?_⟩⟩
    exact fin t e f _ ((ss.trans (sameNew nf)).trans (sameNew nt)) upd_same (((ExK.of x).same (sameNew nf)).same (sameNew nt)) (by rw [upd_ne (ne_of_none upd_same nt)]; exact upd_same)
  | 13, _, _ =>
    refine ⟨_, rfl, rfl, _, rfl, ?_⟩
    refine ite2 (fun q => absurd q (by decide)) (fun q => ?_)
    refine ⟨_, rfl, rfl, _, rfl, ?_⟩
    refine ite2 (fun q => absurd q (by decide)) (fun q => ?_)
    refine ⟨_, rfl, rfl, _, rfl, ?_⟩
    refine ite2 (fun q => absurd q (by decide)) (fun q => ?_)
    refine ⟨_, rfl, rfl, _, rfl, ?_⟩
    refine ite2 (fun q => absurd q (by decide)) (fun q => ?_)
    refine ⟨_, rfl, rfl, _, rfl, ?_⟩
    refine ite2 (fun q => absurd q (by decide)) (fun q => ?_)
    refine ⟨_, rfl, rfl, _, rfl, ?_⟩
    refine ite2 (fun q => absurd q (by decide)) (fun q => ?_)
    refine ⟨_, rfl, rfl, _, rfl, ?_⟩
    refine ite2 (fun q => ?_) (fun q => absurd (by decide) q)
    intro e ne
    have ss := sameNew (o := exo e (cls K 13) none) ne
    have x : ExK K (upd H e (exo e (cls K 13) none)) e 13 := ⟨none, upd_same, fun _ q => by cases q⟩
    refine ⟨(by show 0 ≤ sizeLine; decide), fun f nf => ⟨(by show 2 ≤ sizeLine; decide), fun t nt => ?_⟩⟩
    exact fin t e f _ ((ss.trans (sameNew nf)).trans (sameNew nt)) upd_same ((x.same (sameNew nf)).same (sameNew nt)) (by rw [upd_ne (ne_of_none upd_same nt)]; exact upd_same)
  | 14, _, _ =>
    refine ⟨_, rfl, rfl, _, rfl, ?_⟩
    refine ite2 (fun q => absurd q (by decide)) (fun q => ?_)
    refine ⟨_, rfl, rfl, _, rfl, ?_⟩
    refine ite2 (fun q => absurd q (by decide)) (fun q => ?_)
    refine ⟨_, rfl, rfl, _, rfl, ?_⟩
    refine ite2 (fun q => absurd q (by decide)) (fun q => ?_)
    refine ⟨_, rfl, rfl, _, rfl, ?_⟩
    refine ite2 (fun q => absurd q (by decide)) (fun q => ?_)
    refine ⟨_, rfl, rfl, _, rfl, ?_⟩
    refine ite2 (fun q => absurd q (by decide)) (fun q => ?_)
    refine ⟨_, rfl, rfl, _, rfl, ?_⟩
    refine ite2 (fun q => absurd q (by decide)) (fun q => ?_)
    refine ⟨_, rfl, rfl, _, rfl, ?_⟩
    refine ite2 (fun q => absurd q (by decide)) (fun q => ?_)
    intro e ne
    have ss := sameNew (o := exo e (cls K 14) none) ne
    have x : ExK K (upd H e (exo e (cls K 14) none)) e 14 := ⟨none, upd_same, fun _ q => by cases q⟩
    refine ⟨(by show 0 ≤ sizeLine; decide), fun f nf => ⟨(by show 2 ≤ sizeLine; decide), fun t nt => ?_⟩⟩
    exact fin t e f _ ((ss.trans (sameNew nf)).trans (sameNew nt)) upd_same ((x.same (sameNew nf)).same (sameNew nt)) (by rw [upd_ne (ne_of_none upd_same nt)]; exact upd_same)
  | k + 15, _, h => exact absurd h (by omega)
theorem ok_law_one (T : Tx K mg) (F : Cl.Top K mg "_law_one" s_law_one ["kind", "a", "b", "c"]) (D_law_more : Def P w K mg base "_law_more" 3 ["kind", "a", "b", "c"] (spOne K 7)) :
    Def P w K mg base "_law_one" 4 ["kind", "a", "b", "c"] (spOne K 0) := by
  have E_BadName : EMk P w K mg base "BadName" 1 _ _ _ := mk_BadName T
  have E_TakenName : EMk P w K mg base "TakenName" 1 _ _ _ := mk_TakenName T
  have E_BadCell : EMk P w K mg base "BadCell" 1 _ _ _ := mk_BadCell T
  have E_NotThere : EMk P w K mg base "NotThere" 1 _ _ _ := mk_NotThere T
  have E_BadLand : EMk P w K mg base "BadLand" 1 _ _ _ := mk_BadLand T
  have E_BadArrangement : EMk P w K mg base "BadArrangement" 1 _ _ _ := mk_BadArrangement T
  have E_BadText : EMk P w K mg base "BadText" 1 _ _ _ := mk_BadText T
  refine Def.of F sc_law_one (fun h => ?_) fun f cd A fr s H vs Q E hr hgd h => ?_
  · obtain ⟨k, va, vb, vc, rfl, _⟩ := h
    rfl
  obtain ⟨k, va, vb, vc, rfl, hlo, hk, fin⟩ := h
  refine ⟨_, (pss_cons (ps_if (pt_cmpR op_lt (pv 0) pe_int (nomark _))
      (pss_cons (ps_set (i := 4) sc_law_one.nd rfl (Or.inl rfl) (pe_ix (kIxL K) (pe_lst (pa_cons (pe_mkE E_BadName (hr.mono (by decide)) hgd (by rfl) (pa_cons (pv 1) pa_nil)) (pa_cons (pe_mkE E_TakenName (hr.mono (by decide)) hgd (by rfl) (pa_cons (pv 1) pa_nil)) pa_nil))) (pv 0) (fun _ _ => rfl)))
      (pss_one (ps_ret (pe_tup (pa_cons (pv 4) (pa_cons (pe_tup (pa_cons (pe_xfld (pv 4)) pa_nil)) pa_nil))))))
      pss_nil)
      (pss_cons (ps_if (pt_cmpR op_lt (pv 0) pe_int (nomark _))
      (pss_cons (ps_set (i := 4) sc_law_one.nd rfl (Or.inl rfl) (pe_ix (kIxL K) (pe_lst (pa_cons (pe_mkE E_BadCell (hr.mono (by decide)) hgd (by rfl) (pa_cons (pv 1) pa_nil)) (pa_cons (pe_mkE E_NotThere (hr.mono (by decide)) hgd (by rfl) (pa_cons (pv 1) pa_nil)) pa_nil))) (pe_op op_sub (pv 0) pe_int) (fun _ _ => rfl)))
      (pss_one (ps_ret (pe_tup (pa_cons (pv 4) (pa_cons (pe_tup (pa_cons (pe_xfld (pv 4)) pa_nil)) pa_nil))))))
      pss_nil)
      (pss_cons (ps_if (pt_cmpR op_lt (pv 0) pe_int (nomark _))
      (pss_cons (ps_set (i := 4) sc_law_one.nd rfl (Or.inl rfl) (pe_ix (kIxL K) (pe_lst (pa_cons (pe_mkE E_BadLand (hr.mono (by decide)) hgd (by rfl) (pa_cons (pv 1) pa_nil)) (pa_cons (pe_mkE E_BadArrangement (hr.mono (by decide)) hgd (by rfl) (pa_cons (pv 1) pa_nil)) pa_nil))) (pe_op op_sub (pv 0) pe_int) (fun _ _ => rfl)))
      (pss_one (ps_ret (pe_tup (pa_cons (pv 4) (pa_cons (pe_tup (pa_cons (pe_xfld (pv 4)) pa_nil)) pa_nil))))))
      pss_nil)
      (pss_cons (ps_if (pt_cmpR op_eq (pv 0) pe_int (nomark _))
      (pss_cons (ps_set (i := 4) sc_law_one.nd rfl (Or.inl rfl) (pe_mkE E_BadText (hr.mono (by decide)) hgd (by rfl) (pa_cons (pv 1) (pa_cons (pv 2) pa_nil))))
      (pss_one (ps_ret (pe_tup (pa_cons (pv 4) (pa_cons (pe_tup (pa_cons (pe_xfld (pv 4)) (pa_cons (pe_xfld (pv 4)) pa_nil))) pa_nil))))))
      pss_nil)
      (pss_one (ps_ret (pe_d D_law_more (hr.mono (by decide)) hgd (by rfl) passNo (pa_cons (pv 0) (pa_cons (pv 1) (pa_cons (pv 2) (pa_cons (pv 3) pa_nil))))))))))), ?_⟩
  by_cases h7 : 7 ≤ k
  · refine ⟨_, rfl, _, _, rfl, rfl, _, rfl, ?_⟩
    refine ite2 (fun q => by have := of_decide_eq_true q; omega) (fun _ => ?_)
    refine ⟨_, rfl, _, _, rfl, rfl, _, rfl, ?_⟩
    refine ite2 (fun q => by have := of_decide_eq_true q; omega) (fun _ => ?_)
    refine ⟨_, rfl, _, _, rfl, rfl, _, rfl, ?_⟩
    refine ite2 (fun q => by have := of_decide_eq_true q; omega) (fun _ => ?_)
    refine ⟨_, rfl, rfl, _, rfl, ?_⟩
    refine ite2 (fun q => by have := V.int.inj (of_decide_eq_true q); omega) (fun _ => ?_)
    exact ⟨_, rfl, _, rfl, _, rfl, _, rfl, k, va, vb, vc, rfl, h7, hk, fin⟩
  match k, h7 with
  | 0, _ =>
    refine ⟨_, rfl, _, _, rfl, rfl, _, rfl, ?_⟩
    refine ite2 (fun q => ?_) (fun q => absurd (by decide) q)
    refine ⟨_, rfl, rfl, (by show 1 ≤ 1000; decide), fun a0 H0 n0 s0 x0 => ⟨_, rfl, rfl, (by show 1 ≤ 1000; decide), fun a1 H1 n1 s1 x1 => ⟨(by show 2 ≤ sizeLine; decide), fun l nl => ?_⟩⟩⟩
    refine ⟨_, rfl, l, _, _, _, rfl, rfl, SqL.of upd_same, rfl, ?_⟩
    have x := exAt_same (exAt_same x0 s1) (sameNew (o := HO.lst [.ref a0, .ref a1]) nl)
    have ss := (s0.trans s1).trans (sameNew (o := HO.lst [.ref a0, .ref a1]) nl)
    refine ⟨_, rfl, _, rfl, a0, He.ga K "BadName", _, _, rfl, x, T.ec_BadName, T.no_BadName_name, rfl, (by show 1 ≤ sizeLine; decide), fun f nf => ⟨(by show 2 ≤ sizeLine; decide), fun t nt => ?_⟩⟩
    exact fin t a0 f _ ((ss.trans (sameNew nf)).trans (sameNew nt)) upd_same (((ExK.of x).same (sameNew nf)).same (sameNew nt)) (by rw [upd_ne (ne_of_none upd_same nt)]; exact upd_same)
  | 1, _ =>
    refine ⟨_, rfl, _, _, rfl, rfl, _, rfl, ?_⟩
    refine ite2 (fun q => ?_) (fun q => absurd (by decide) q)
    refine ⟨_, rfl, rfl, (by show 1 ≤ 1000; decide), fun a0 H0 n0 s0 x0 => ⟨_, rfl, rfl, (by show 1 ≤ 1000; decide), fun a1 H1 n1 s1 x1 => ⟨(by show 2 ≤ sizeLine; decide), fun l nl => ?_⟩⟩⟩
    refine ⟨_, rfl, l, _, _, _, rfl, rfl, SqL.of upd_same, rfl, ?_⟩
    have x := exAt_same (x1) (sameNew (o := HO.lst [.ref a0, .ref a1]) nl)
    have ss := (s0.trans s1).trans (sameNew (o := HO.lst [.ref a0, .ref a1]) nl)
    refine ⟨_, rfl, _, rfl, a1, He.ga K "TakenName", _, _, rfl, x, T.ec_TakenName, T.no_TakenName_name, rfl, (by show 1 ≤ sizeLine; decide), fun f nf => ⟨(by show 2 ≤ sizeLine; decide), fun t nt => ?_⟩⟩
    exact fin t a1 f _ ((ss.trans (sameNew nf)).trans (sameNew nt)) upd_same (((ExK.of x).same (sameNew nf)).same (sameNew nt)) (by rw [upd_ne (ne_of_none upd_same nt)]; exact upd_same)
  | 2, _ =>
    refine ⟨_, rfl, _, _, rfl, rfl, _, rfl, ?_⟩
    refine ite2 (fun q => absurd q (by decide)) (fun q => ?_)
    refine ⟨_, rfl, _, _, rfl, rfl, _, rfl, ?_⟩
    refine ite2 (fun q => ?_) (fun q => absurd (by decide) q)
    refine ⟨_, rfl, rfl, (by show 1 ≤ 1000; decide), fun a0 H0 n0 s0 x0 => ⟨_, rfl, rfl, (by show 1 ≤ 1000; decide), fun a1 H1 n1 s1 x1 => ⟨(by show 2 ≤ sizeLine; decide), fun l nl => ?_⟩⟩⟩
    refine ⟨_, rfl, _, _, rfl, rfl, l, _, _, _, rfl, rfl, SqL.of upd_same, rfl, ?_⟩
    have x := exAt_same (exAt_same x0 s1) (sameNew (o := HO.lst [.ref a0, .ref a1]) nl)
    have ss := (s0.trans s1).trans (sameNew (o := HO.lst [.ref a0, .ref a1]) nl)
    refine ⟨_, rfl, _, rfl, a0, He.ga K "BadCell", _, _, rfl, x, T.ec_BadCell, T.no_BadCell_cell, rfl, (by show 1 ≤ sizeLine; decide), fun f nf => ⟨(by show 2 ≤ sizeLine; decide), fun t nt => ?_⟩⟩
    exact fin t a0 f _ ((ss.trans (sameNew nf)).trans (sameNew nt)) upd_same (((ExK.of x).same (sameNew nf)).same (sameNew nt)) (by rw [upd_ne (ne_of_none upd_same nt)]; exact upd_same)
  | 3, _ =>
    refine ⟨_, rfl, _, _, rfl, rfl, _, rfl, ?_⟩
    refine ite2 (fun q => absurd q (by decide)) (fun q => ?_)
    refine ⟨_, rfl, _, _, rfl, rfl, _, rfl, ?_⟩
    refine ite2 (fun q => ?_) (fun q => absurd (by decide) q)
    refine ⟨_, rfl, rfl, (by show 1 ≤ 1000; decide), fun a0 H0 n0 s0 x0 => ⟨_, rfl, rfl, (by show 1 ≤ 1000; decide), fun a1 H1 n1 s1 x1 => ⟨(by show 2 ≤ sizeLine; decide), fun l nl => ?_⟩⟩⟩
    refine ⟨_, rfl, _, _, rfl, rfl, l, _, _, _, rfl, rfl, SqL.of upd_same, rfl, ?_⟩
    have x := exAt_same (x1) (sameNew (o := HO.lst [.ref a0, .ref a1]) nl)
    have ss := (s0.trans s1).trans (sameNew (o := HO.lst [.ref a0, .ref a1]) nl)
    refine ⟨_, rfl, _, rfl, a1, He.ga K "NotThere", _, _, rfl, x, T.ec_NotThere, T.no_NotThere_cell, rfl, (by show 1 ≤ sizeLine; decide), fun f nf => ⟨(by show 2 ≤ sizeLine; decide), fun t nt => ?_⟩⟩
    exact fin t a1 f _ ((ss.trans (sameNew nf)).trans (sameNew nt)) upd_same (((ExK.of x).same (sameNew nf)).same (sameNew nt)) (by rw [upd_ne (ne_of_none upd_same nt)]; exact upd_same)
  | 4, _ =>
    refine ⟨_, rfl, _, _, rfl, rfl, _, rfl, ?_⟩
    refine ite2 (fun q => absurd q (by decide)) (fun q => ?_)
    refine ⟨_, rfl, _, _, rfl, rfl, _, rfl, ?_⟩
    refine ite2 (fun q => absurd q (by decide)) (fun q => ?_)
    refine ⟨_, rfl, _, _, rfl, rfl, _, rfl, ?_⟩
    refine ite2 (fun q => ?_) (fun q => absurd (by decide) q)
    refine ⟨_, rfl, rfl, (by show 1 ≤ 1000; decide), fun a0 H0 n0 s0 x0 => ⟨_, rfl, rfl, (by show 1 ≤ 1000; decide), fun a1 H1 n1 s1 x1 => ⟨(by show 2 ≤ sizeLine; decide), fun l nl => ?_⟩⟩⟩
    refine ⟨_, rfl, _, _, rfl, rfl, l, _, _, _, rfl, rfl, SqL.of upd_same, rfl, ?_⟩
    have x := exAt_same (exAt_same x0 s1) (sameNew (o := HO.lst [.ref a0, .ref a1]) nl)
    have ss := (s0.trans s1).trans (sameNew (o := HO.lst [.ref a0, .ref a1]) nl)
    refine ⟨_, rfl, _, rfl, a0, He.ga K "BadLand", _, _, rfl, x, T.ec_BadLand, T.no_BadLand_cells, rfl, (by show 1 ≤ sizeLine; decide), fun f nf => ⟨(by show 2 ≤ sizeLine; decide), fun t nt => ?_⟩⟩
    exact fin t a0 f _ ((ss.trans (sameNew nf)).trans (sameNew nt)) upd_same (((ExK.of x).same (sameNew nf)).same (sameNew nt)) (by rw [upd_ne (ne_of_none upd_same nt)]; exact upd_same)
  | 5, _ =>
    refine ⟨_, rfl, _, _, rfl, rfl, _, rfl, ?_⟩
    refine ite2 (fun q => absurd q (by decide)) (fun q => ?_)
    refine ⟨_, rfl, _, _, rfl, rfl, _, rfl, ?_⟩
    refine ite2 (fun q => absurd q (by decide)) (fun q => ?_)
    refine ⟨_, rfl, _, _, rfl, rfl, _, rfl, ?_⟩
    refine ite2 (fun q => ?_) (fun q => absurd (by decide) q)
    refine ⟨_, rfl, rfl, (by show 1 ≤ 1000; decide), fun a0 H0 n0 s0 x0 => ⟨_, rfl, rfl, (by show 1 ≤ 1000; decide), fun a1 H1 n1 s1 x1 => ⟨(by show 2 ≤ sizeLine; decide), fun l nl => ?_⟩⟩⟩
    refine ⟨_, rfl, _, _, rfl, rfl, l, _, _, _, rfl, rfl, SqL.of upd_same, rfl, ?_⟩
    have x := exAt_same (x1) (sameNew (o := HO.lst [.ref a0, .ref a1]) nl)
    have ss := (s0.trans s1).trans (sameNew (o := HO.lst [.ref a0, .ref a1]) nl)
    refine ⟨_, rfl, _, rfl, a1, He.ga K "BadArrangement", _, _, rfl, x, T.ec_BadArrangement, T.no_BadArrangement_cells, rfl, (by show 1 ≤ sizeLine; decide), fun f nf => ⟨(by show 2 ≤ sizeLine; decide), fun t nt => ?_⟩⟩
    exact fin t a1 f _ ((ss.trans (sameNew nf)).trans (sameNew nt)) upd_same (((ExK.of x).same (sameNew nf)).same (sameNew nt)) (by rw [upd_ne (ne_of_none upd_same nt)]; exact upd_same)
  | 6, _ =>
    refine ⟨_, rfl, _, _, rfl, rfl, _, rfl, ?_⟩
    refine ite2 (fun q => absurd q (by decide)) (fun q => ?_)
    refine ⟨_, rfl, _, _, rfl, rfl, _, rfl, ?_⟩
    refine ite2 (fun q => absurd q (by decide)) (fun q => ?_)
    refine ⟨_, rfl, _, _, rfl, rfl, _, rfl, ?_⟩
    refine ite2 (fun q => absurd q (by decide)) (fun q => ?_)
    refine ⟨_, rfl, rfl, _, rfl, ?_⟩
    refine ite2 (fun q => ?_) (fun q => absurd (by decide) q)
    refine ⟨_, rfl, _, rfl, rfl, (by show 2 ≤ 1000; decide), fun e H0 n0 ss x => ?_⟩
    refine ⟨_, rfl, _, rfl, e, He.ga K "BadText", _, _, rfl, x, T.ec_BadText, T.no_BadText_line, rfl, _, rfl, e, He.ga K "BadText", _, _, rfl, x, T.ec_BadText, T.no_BadText_column, rfl, (by show 2 ≤ sizeLine; decide), fun f nf => ⟨(by show 2 ≤ sizeLine; decide), fun t nt => ?_⟩⟩
    exact fin t e f _ ((ss.trans (sameNew nf)).trans (sameNew nt)) upd_same (((ExK.of x).same (sameNew nf)).same (sameNew nt)) (by rw [upd_ne (ne_of_none upd_same nt)]; exact upd_same)
  | k + 7, h => exact absurd (Nat.le_add_left 7 k) h
end
end K00

namespace K00
open PySem PySem.Spec
open PyProof.Rows hiding St
open L2 Cl
section
variable {P : Program} {w : World} {K : PySem.W.Frag} {mg : Str → Option Value} {base : Heap}
/-- what the menu's items are like -/
structure Small (d : PyData) : Prop where
  sh : d.showable = true
  nd : d.hasDict = false
  lv : d.leavesShort 200 = true
  wt : d.weight ≤ 1000
  dp : d.depth ≤ 5
theorem tells_tup {ds : List PyData} (h : ∀ d ∈ ds, Small d) (l : ds.length ≤ 3) : Tells (.tuple ds) := by
  match ds, l with
  | [], _ => exact ⟨rfl, rfl, rfl, by decide, by decide⟩
  | [a], _ =>
    have ha := h a (by simp)
    refine ⟨?_, ?_, ?_, ?_, ?_⟩
    · simp [PyData.showable, PyData.showableAll, ha.sh]
    · simp [PyData.hasDict, PyData.hasDictAll, ha.nd]
    · simp [PyData.leavesShort, PyData.leavesShortAll, ha.lv]
    · have := ha.wt; simp [PyData.weight, PyData.weightAll]; omega
    · have := ha.dp; simp [PyData.depth, PyData.depthAll]; omega
  | [a, b], _ =>
    have ha := h a (by simp)
    have hb := h b (by simp)
    refine ⟨?_, ?_, ?_, ?_, ?_⟩
    · simp [PyData.showable, PyData.showableAll, ha.sh, hb.sh]
    · simp [PyData.hasDict, PyData.hasDictAll, ha.nd, hb.nd]
    · simp [PyData.leavesShort, PyData.leavesShortAll, ha.lv, hb.lv]
    · have := ha.wt; have := hb.wt; simp [PyData.weight, PyData.weightAll]; omega
    · have := ha.dp; have := hb.dp; simp [PyData.depth, PyData.depthAll]; omega
  | [a, b, c], _ =>
    have ha := h a (by simp)
    have hb := h b (by simp)
    have hc := h c (by simp)
    refine ⟨?_, ?_, ?_, ?_, ?_⟩
    · simp [PyData.showable, PyData.showableAll, ha.sh, hb.sh, hc.sh]
    · simp [PyData.hasDict, PyData.hasDictAll, ha.nd, hb.nd, hc.nd]
    · simp [PyData.leavesShort, PyData.leavesShortAll, ha.lv, hb.lv, hc.lv]
    · have := ha.wt; have := hb.wt; have := hc.wt; simp [PyData.weight, PyData.weightAll]; omega
    · have := ha.dp; have := hb.dp; have := hc.dp; simp [PyData.depth, PyData.depthAll]; omega
theorem small_int {i : Int} (h : i.natAbs < 10 ^ 60) : Small (.int i) := by
  have l : i.natAbs.log2 < 200 := by
    by_cases z : i.natAbs = 0
    · rw [z]; decide
    · exact (Nat.log2_lt z).mpr (Nat.lt_of_lt_of_le h (by decide))
  refine ⟨?_, rfl, ?_, ?_, by show 0 ≤ 5; decide⟩
  · simp [PyData.showable]; omega
  · have e := int_text_length_le10 (k := 60) (by decide) h
    have e2 : (PyData.shown (.int i)).length ≤ 61 := by
      show (Str.ofString (toString i)).length ≤ 61
      rw [PySem.ofString_length]; exact e
    simp only [PyData.leavesShort, decide_eq_true_eq]
    omega
  · simp only [PyData.weight]
    split <;> omega
/-- the menu -/
def MenuAt (H : Hp) (l : Addr) : Prop := ∃ (mvs : List V) (mds : List PyData), H l = some (.lst mvs) ∧ DtAll H mvs mds ∧ (∀ d ∈ mds, Small d) ∧ 0 < mvs.length ∧ mvs.length ≤ 100
theorem MenuAt.kd {H H' : Hp} {l : Addr} (h : MenuAt H l) (k : Kd H H') : MenuAt H' l := by
  obtain ⟨mvs, mds, h1, h2, h3⟩ := h
  exact ⟨mvs, mds, k _ _ rfl h1, h2.mono k, h3⟩
theorem mem_dt {H : Hp} : ∀ {ds : List PyData} {vs : List V} {v : V}, DtAll H vs ds → v ∈ vs → ∃ d ∈ ds, Dt H v d
  | [], _, v, h, m => by cases h; cases m
  | d :: ds, _, v, h, m => by
    cases h with
    | cons a b =>
      rcases List.mem_cons.mp m with rfl | m
      · exact ⟨d, List.mem_cons_self, a⟩
      · obtain ⟨e, he, h'⟩ := mem_dt b m
        exact ⟨e, List.mem_cons_of_mem _ he, h'⟩
def spLaw (K : PySem.W.Frag) : Sp := fun vs H Q _ => ∃ (a : Addr) (ns : List Int), vs = [.ref a] ∧ SqL K H a (ns.map V.int) ∧ ns.length ≤ 63 ∧ ∀ H', Q (.bl true) H'
theorem eqv_bools : ∀ bs : List Bool, PyData.eqvAll (bs.map PyData.bool) (bs.map PyData.bool) = true
  | [] => rfl
  | b :: bs => by
    simp only [List.map_cons, PyData.eqvAll, eqv_bools bs, Bool.and_true]
    cases b <;> rfl
theorem shaped_bools : ∀ bs : List Bool, SeqAt.shaped (.list (bs.map PyData.bool)) = true := by
  intro bs
  have h1 : ∀ bs : List Bool, PyData.canLayAll0 (bs.map PyData.bool) = true := fun bs => by
    induction bs with
    | nil => rfl
    | cons b bs ih => simp only [List.map_cons, PyData.canLayAll0, PyData.canLay0, ih, Bool.and_true]
  have h2 : ∀ bs : List Bool, PyData.depthAll (bs.map PyData.bool) = 0 := fun bs => by
    induction bs with
    | nil => rfl
    | cons b bs ih => simp only [List.map_cons, PyData.depthAll, PyData.depth, ih, Nat.max_self]
  unfold SeqAt.shaped
  rw [PyData.canLay0, PyData.depth, h1, h2]
  rfl
/-- the data's beginnings, told -/
def beg (ds : List PyData) (i : Nat) : PyData := .str (PyData.shown (.tuple (ds.take i)))
theorem nf_le (k : Nat) : nf.getD k 0 ≤ 3 := by
  unfold nf
  match k with
  | 0 | 1 | 2 | 3 | 4 | 5 | 6 | 7 | 8 | 9 | 10 | 11 | 12 | 13 | 14 => decide
  | k + 15 => exact Nat.zero_le _
/-- repr((a, b, c)[:many]) -/
theorem ed_beg {K : PySem.W.Frag} {σ : St} {H : Hp} {x y z : V} {dx dy dz : PyData} (h4 : σ[4]? = some (some x)) (h5 : σ[5]? = some (some y)) (h6 : σ[6]? = some (some z)) {i : Nat} (h10 : σ[10]? = some (some (.int (i : Int)))) (hi : i < 4)
    (hx : Dt H x dx) (hy : Dt H y dy) (hz : Dt H z dz) (sx : Small dx) (sy : Small dy) (sz : Small dz) :
    Ed (tCB rRepr (tCons (tSl (rSlA K) (tTup (tCons (tVar 4) (tCons (tVar 5) (tCons (tVar 6) tNil)))) tNoPart (tPart (tVar 10))) tNil)) σ H (isD (beg [dx, dy, dz] i)) := by
  intro H1 e1 Q q
  refine ⟨x, h4, y, h5, z, h6, (by show 3 ≤ sizeLine; decide), fun t nt => ⟨_, h10, i, rfl, t, [x, y, z], rfl, SqT.of upd_same, fun w => ?_, fun w p np => ?_⟩⟩
  · have s1 := sameNew (o := HO.tup [x, y, z]) nt
    have ei : i = 3 := by
      have e := w.2
      match i, hi with
      | 0, _ => exact absurd e (by show ¬ (HT.sIx 3 3 (some ((0 : Nat) : Int)) = 3); decide)
      | 1, _ => exact absurd e (by show ¬ (HT.sIx 3 3 (some ((1 : Nat) : Int)) = 3); decide)
      | 2, _ => exact absurd e (by show ¬ (HT.sIx 3 3 (some ((2 : Nat) : Int)) = 3); decide)
      | 3, _ => rfl
    subst ei
    refine ⟨_, .tuple [dx, dy, dz], rfl, .tup upd_same (.cons ((hx.same e1).same s1) (.cons ((hy.same e1).same s1) (.cons ((hz.same e1).same s1) .nil))), tells_tup ?_ (Nat.le_refl _), q _ _ s1 (.str _)⟩
    intro d hd
    simp only [List.mem_cons, List.not_mem_nil, or_false] at hd
    rcases hd with rfl | rfl | rfl <;> assumption
  · have s1 := (sameNew (o := HO.tup [x, y, z]) nt).trans (sameNew (o := HO.tup (cutV [x, y, z] none (some (i : Int)))) np)
    have al : DtAll (upd (upd H1 t (.tup [x, y, z])) p (.tup (cutV [x, y, z] none (some (i : Int))))) [x, y, z] [dx, dy, dz] := .cons ((hx.same e1).same s1) (.cons ((hy.same e1).same s1) (.cons ((hz.same e1).same s1) .nil))
    have ct := al.cut none (some (i : Int))
    have ed : (([dx, dy, dz] : List PyData).drop (HT.sIx ([dx, dy, dz] : List PyData).length 0 none)).take (HT.sIx ([dx, dy, dz] : List PyData).length ([dx, dy, dz] : List PyData).length (some (i : Int)) - HT.sIx ([dx, dy, dz] : List PyData).length 0 none) = [dx, dy, dz].take i := by
      match i, hi with
      | 0, _ => rfl
      | 1, _ => rfl
      | 2, _ => rfl
      | 3, _ => rfl
    rw [ed] at ct
    refine ⟨_, .tuple ([dx, dy, dz].take i), rfl, .tup upd_same ct, tells_tup ?_ (by rw [List.length_take]; show min i 3 ≤ 3; omega), q _ _ s1 (.str _)⟩
    intro d hd
    have hd := List.mem_of_mem_take hd
    simp only [List.mem_cons, List.not_mem_nil, or_false] at hd
    rcases hd with rfl | rfl | rfl <;> assumption
theorem ok_law (T : Tx K mg) {f : Addr} {fd : FuncData} (F : FnAt K "law" "law" s_law f fd) (D_law_pen : Def P w K mg base "_law_pen" 1 ["script"] (spPen K)) (D_law_draw : Def P w K mg base "_law_draw" 1 ["pen", "many"] spDraw)
    (D_law_pick : Def P w K mg base "_law_pick" 2 ["pen", "some"] spPick) (D_law_one : Def P w K mg base "_law_one" 4 ["kind", "a", "b", "c"] (spOne K 0))
    (D_law_kinds : Def P w K mg base "_law_kinds" 1 ["e"] (spKinds K)) : FnG P w K mg base 5 f fd ["script"] (spLaw K) := by
  refine FnG.of F sc_law (fun h => ?_) fun cd A fr s H vs Q E hr hgd h => ?_
  · obtain ⟨a, ns, rfl, _⟩ := h
    rfl
  obtain ⟨a, ns, rfl, hS, hl, fin⟩ := h
  refine ⟨_, (pss_cons (ps_set (i := 1) sc_law.nd rfl (Or.inl rfl) (pe_d D_law_pen (hr.mono (by decide)) hgd (by rfl) passNo (pa_cons (pv 0) pa_nil)))
      (pss_cons (ps_set (i := 2) sc_law.nd rfl (Or.inl rfl) (pe_lst (pa_cons pe_non (pa_cons pe_bl (pa_cons pe_int (pa_cons (pe_op op_sub (pe_un un_neg pe_int) (pe_d D_law_draw (hr.mono (by decide)) hgd (by rfl) passNo (pa_cons (pv 1) (pa_cons pe_int pa_nil)))) (pa_cons (pe_op op_add (pe_op op_pow pe_int pe_int) (pe_d D_law_draw (hr.mono (by decide)) hgd (by rfl) passNo (pa_cons (pv 1) (pa_cons pe_int pa_nil)))) (pa_cons pe_str (pa_cons pe_str (pa_cons (pe_tup (pa_cons pe_int (pa_cons pe_int pa_nil))) (pa_cons (pe_lst (pa_cons pe_int pa_nil)) (pa_cons (pe_tup (pa_cons pe_str (pa_cons pe_str pa_nil))) pa_nil))))))))))))
      (pss_cons (ps_expr (pe_bm PySem.F.plainAttrs_list PySem.F.slot_list_append PySem.F.type_list_append mt_append (pv 2) (pa_cons (pe_tup (pa_cons (pe_tup (pa_cons pe_int (pa_cons pe_int pa_nil))) pa_nil)) pa_nil)))
      (pss_cons (ps_for (passes_of rfl) rfl (pi_range1 (by rfl) T.n_range (pa_cons pe_int pa_nil)) (pg_name (i := 3) sc_law.nd rfl (Or.inr rfl))
      (pss_cons (ps_asg (pe_tup (pa_cons (pe_d D_law_pick (hr.mono (by decide)) hgd (by rfl) passNo (pa_cons (pv 1) (pa_cons (pv 2) pa_nil))) (pa_cons (pe_d D_law_pick (hr.mono (by decide)) hgd (by rfl) passNo (pa_cons (pv 1) (pa_cons (pv 2) pa_nil))) (pa_cons (pe_d D_law_pick (hr.mono (by decide)) hgd (by rfl) passNo (pa_cons (pv 1) (pa_cons (pv 2) pa_nil))) pa_nil)))) (pg_tup rfl (pgs_cons (pg_name (i := 4) sc_law.nd rfl (Or.inr rfl)) (pgs_cons (pg_name (i := 5) sc_law.nd rfl (Or.inr rfl)) (pgs_cons (pg_name (i := 6) sc_law.nd rfl (Or.inr rfl)) pgs_nil)))))
      (pss_cons (ps_setLc (i := 7) (own := [("many", 10)]) (g := (gName 10)) (tt := tYes) (by rfl) sc_law.nd rfl rfl (sw_true rfl rfl rfl (by decide +kernel)) (pi_range1 (by rfl) T.n_range (pa_cons pe_int pa_nil)) (blkOk_by (own := [("many", 10)]) (N := ["script", "pen", "menu", "kind", "a", "b", "c", "dues", "e", "fields", "many", "k"]) (sc := defScope s_law) (by decide +kernel)) (fun _ _ _ _ _ => (pg_name (i := 10) sc_law.nd rfl (Or.inl rfl))) (fun _ _ _ _ _ => pts_nil) (fun _ _ _ _ _ => (pe_callB (call_repr hgd hr.units) (by rfl) T.n_repr bt_repr (pa_cons (pe_slice (kSlT K) (pe_tup (pa_cons (pv 4) (pa_cons (pv 5) (pa_cons (pv 6) pa_nil)))) po_none (po_some (pv 10))) pa_nil))))
      (pss_cons (ps_asg (pe_d D_law_one (hr.mono (by decide)) hgd (by rfl) passNo (pa_cons (pv 3) (pa_cons (pv 4) (pa_cons (pv 5) (pa_cons (pv 6) pa_nil))))) (pg_tup rfl (pgs_cons (pg_name (i := 8) sc_law.nd rfl (Or.inl rfl)) (pgs_cons (pg_name (i := 9) sc_law.nd rfl (Or.inl rfl)) pgs_nil))))
      (pss_cons (ps_if (pt_cmpR op_ne (pe_callB (call_repr hgd hr.units) (by rfl) T.n_repr bt_repr (pa_cons (pv 9) pa_nil)) (pe_ix (kIx K) (pv 7) (pe_callB (kLen K) (by rfl) T.n_len bt_len (pa_cons (pv 9) pa_nil)) (fun _ _ => rfl)) (nomark _))
      (pss_one (ps_ret pe_bl))
      pss_nil)
      (pss_cons (ps_if (PW.pt (pw_or (pt_not (pt_val (pe_callB call_isX (by rfl) T.n_isinstance bt_isinstance (pa_cons (pv 8) (pa_cons (pe_gref (by rfl) T.g_ClimbError) pa_nil))))) (pw_or1 (pt_not (pt_val (pe_callB call_isX (by rfl) T.n_isinstance bt_isinstance (pa_cons (pv 8) (pa_cons (pe_gty (by rfl) T.n_ValueError bt_ValueError) pa_nil))))))))
      (pss_one (ps_ret pe_bl))
      pss_nil)
      (pss_one (ps_if (pt_cmpR (op_neT hr.units) (pe_d D_law_kinds (hr.mono (by decide)) hgd (by rfl) passNo (pa_cons (pv 8) pa_nil)) (pe_lc (own := [("k", 11)]) (g := (gName 11)) (tt := tYes) (by rfl) sc_law.nd (pi_range1 (by rfl) T.n_range (pa_cons pe_int pa_nil)) (blkOk_by (own := [("k", 11)]) (N := ["script", "pen", "menu", "kind", "a", "b", "c", "dues", "e", "fields", "many", "k"]) (sc := defScope s_law) (by decide +kernel)) (fun _ _ _ _ _ => (pg_name (i := 11) sc_law.nd rfl (Or.inl rfl))) (fun _ _ _ _ _ => pts_nil) (fun _ _ _ _ _ => (pe_cmpR op_eq (pv 11) (pv 3) (nomark _)))) (nomark _))
      (pss_one (ps_ret pe_bl))
      pss_nil))))))))
      (pss_one (ps_ret pe_bl)))))), ?_⟩
  refine ⟨_, rfl, a, ns, rfl, hS, hl, fun p H1 s1 np hp => ?_⟩
  -- the menu
  refine ⟨_, rfl, _, rfl, p, 0, 9, rfl, hp, by decide, by decide, by decide, fun r1 H2 r10 r11 b1 hp1 => ⟨_, _, rfl, rfl, ?_⟩⟩
  refine ⟨_, _, rfl, rfl, ⟨by decide, by decide, by decide⟩, _, rfl, p, 1, 99, rfl, hp1, by decide, by decide, by decide, fun r2 H3 r20 r21 b2 hp2 => ⟨_, _, rfl, rfl, ?_⟩⟩
  refine ⟨(by show 2 ≤ sizeLine; decide), fun t1 n1 => ⟨(by show 1 ≤ sizeLine; decide), fun t2 n2 => ⟨(by show 2 ≤ sizeLine; decide), fun t3 n3 => ⟨(by show 10 ≤ sizeLine; decide), fun l nl => ?_⟩⟩⟩⟩
  -- what stands: the pen, the list of ten
  have pen3 : Pen H3 p 2 := hp2
  have ss := (((sameNew (o := HO.tup [V.int 1, V.int 2]) n1).trans (sameNew (o := HO.lst [V.int 3]) n2)).trans (sameNew (o := HO.tup [V.str "b", V.str "c"]) n3))
  have e1 : (upd (upd (upd H3 t1 (.tup [V.int 1, V.int 2])) t2 (.lst [V.int 3])) t3 (.tup [V.str "b", V.str "c"])) t1 = some (.tup [V.int 1, V.int 2]) :=
    ((sameNew n2).trans (sameNew n3)) _ _ upd_same
  have e2 : (upd (upd (upd H3 t1 (.tup [V.int 1, V.int 2])) t2 (.lst [V.int 3])) t3 (.tup [V.str "b", V.str "c"])) t2 = some (.lst [V.int 3]) := (sameNew n3) _ _ upd_same
  have e3 : (upd (upd (upd H3 t1 (.tup [V.int 1, V.int 2])) t2 (.lst [V.int 3])) t3 (.tup [V.str "b", V.str "c"])) t3 = some (.tup [V.str "b", V.str "c"]) := upd_same
  generalize upd (upd (upd H3 t1 (.tup [V.int 1, V.int 2])) t2 (.lst [V.int 3])) t3 (.tup [V.str "b", V.str "c"]) = H4 at ss e1 e2 e3 nl
  have pen4 := pen3.same (ss.trans (sameNew (o := HO.lst [V.non, V.bl true, V.int 0, V.int (-1 - r1), V.int (10 ^ 40 + r2), V.str "", V.str "log", V.ref t1, V.ref t2, V.ref t3]) nl))
  have dts : DtAll H4 [V.non, V.bl true, V.int 0, V.int (-1 - r1), V.int (10 ^ 40 + r2), V.str "", V.str "log", V.ref t1, V.ref t2, V.ref t3]
      [.none, .bool true, .int 0, .int (-1 - r1), .int (10 ^ 40 + r2), .str "", .str "log", .tuple [.int 1, .int 2], .list [.int 3], .tuple [.str "b", .str "c"]] :=
    .cons .non (.cons (.bl _) (.cons (.int _) (.cons (.int _) (.cons (.int _) (.cons (.str _) (.cons (.str _) (.cons (.tup e1 (.cons (.int _) (.cons (.int _) .nil)))
      (.cons (.lst e2 (.cons (.int _) .nil)) (.cons (.tup e3 (.cons (.str _) (.cons (.str _) .nil))) .nil)))))))))
  have sm : ∀ d ∈ ([.none, .bool true, .int 0, .int (-1 - r1), .int (10 ^ 40 + r2), .str "", .str "log", .tuple [.int 1, .int 2], .list [.int 3], .tuple [.str "b", .str "c"]] : List PyData), Small d := by
    intro d hd
    simp only [List.mem_cons, List.not_mem_nil, or_false] at hd
    rcases hd with rfl | rfl | rfl | rfl | rfl | rfl | rfl | rfl | rfl | rfl
    · exact ⟨rfl, rfl, rfl, by decide, by decide⟩
    · exact ⟨rfl, rfl, rfl, by decide, by decide⟩
    · exact small_int (by decide)
    · exact small_int (by omega)
    · exact small_int (by omega)
    all_goals exact ⟨by decide +kernel, by decide +kernel, by decide +kernel, by decide +kernel, by decide +kernel⟩
  have hl4 : (upd H4 l (.lst [V.non, V.bl true, V.int 0, V.int (-1 - r1), V.int (10 ^ 40 + r2), V.str "", V.str "log", V.ref t1, V.ref t2, V.ref t3])) l = some (.lst [V.non, V.bl true, V.int 0, V.int (-1 - r1), V.int (10 ^ 40 + r2), V.str "", V.str "log", V.ref t1, V.ref t2, V.ref t3]) := upd_same
  have s5 := sameNew (o := HO.lst [V.non, V.bl true, V.int 0, V.int (-1 - r1), V.int (10 ^ 40 + r2), V.str "", V.str "log", V.ref t1, V.ref t2, V.ref t3]) nl
  show (fun x H1 => _) _ (upd H4 l (.lst [V.non, V.bl true, V.int 0, V.int (-1 - r1), V.int (10 ^ 40 + r2), V.str "", V.str "log", V.ref t1, V.ref t2, V.ref t3]))
  generalize upd H4 l (.lst [V.non, V.bl true, V.int 0, V.int (-1 - r1), V.int (10 ^ 40 + r2), V.str "", V.str "log", V.ref t1, V.ref t2, V.ref t3]) = H5 at s5 hl4 pen4
  refine ⟨_, rfl, Or.inl ⟨rfl, _, Or.inl (Or.inl hl4)⟩, (by show 2 ≤ sizeLine; decide), fun t4 n4 => ⟨(by show 1 ≤ sizeLine; decide), fun t5 n5 => ?_⟩⟩
  have s6 := (sameNew (o := HO.tup [V.int 0, V.int 0]) n4).trans (sameNew (o := HO.tup [V.ref t4]) n5)
  refine ⟨l, _, _, rfl, rfl, s6 _ _ hl4, (by show 10 < sizeLine; decide), ?_⟩
  have menu : MenuAt (upd (upd (upd H5 t4 (.tup [V.int 0, V.int 0])) t5 (.tup [V.ref t4])) l (.lst ([V.non, V.bl true, V.int 0, V.int (-1 - r1), V.int (10 ^ 40 + r2), V.str "", V.str "log", V.ref t1, V.ref t2, V.ref t3] ++ [V.ref t5]))) l := by
    refine ⟨_, _, upd_same, DtAll.snoc (d := .tuple [.tuple [.int 0, .int 0]]) (dts.same (same_mut (s5.trans s6) nl)) ?_, ?_, (by show 0 < 11; decide), (by show 11 ≤ 100; decide)⟩
    · refine Dt.tk (tk_lst (s6 _ _ hl4)) rfl (.tup upd_same (.cons (.tup (sameNew n5 _ _ upd_same) (.cons (.int _) (.cons (.int _) .nil))) .nil))
    · intro d hd
      rcases List.mem_append.mp hd with hd | hd
      · exact sm d hd
      · rw [List.mem_singleton.mp hd]
        exact ⟨by decide +kernel, by decide +kernel, by decide +kernel, by decide +kernel, by decide +kernel⟩
  have pen7 : Pen (upd (upd (upd H5 t4 (.tup [V.int 0, V.int 0])) t5 (.tup [V.ref t4])) l (.lst ([V.non, V.bl true, V.int 0, V.int (-1 - r1), V.int (10 ^ 40 + r2), V.str "", V.str "log", V.ref t1, V.ref t2, V.ref t3] ++ [V.ref t5]))) p 2 :=
    (pen3.same ss).same (same_mut (s5.trans s6) nl)
  generalize (upd (upd (upd H5 t4 (.tup [V.int 0, V.int 0])) t5 (.tup [V.ref t4])) l (.lst ([V.non, V.bl true, V.int 0, V.int (-1 - r1), V.int (10 ^ 40 + r2), V.str "", V.str "log", V.ref t1, V.ref t2, V.ref t3] ++ [V.ref t5]))) = H7 at menu pen7
  -- the loop
  refine ⟨15, rfl, by decide, by decide, for_range (lo := 0) (n := 15) (fun i σ H' => ∃ v3 v4 v5 v6 v7 v8 v9 : Option V, σ = [some (.ref a), some (.ref p), some (.ref l), v3, v4, v5, v6, v7, v8, v9, none, none] ∧
    MenuAt H' l ∧ Pen H' p (2 + 3 * i)) ⟨none, none, none, none, none, none, none, rfl, menu, pen7⟩ ?_ ?_⟩
  · clear menu pen7
    rintro i σ H8 hi ⟨v3, v4, v5, v6, v7, v8, v9, rfl, ⟨mvs, mds, m1, m2, m3, m4, m5⟩, pen8⟩
    have e0 : (0 : Int) + (i : Int) = (i : Int) := Int.zero_add _
    show tSeq _ _ _ (List.set _ 3 (some (V.int ((0 : Int) + (i : Int))))) H8
    rw [e0]
    refine ⟨_, rfl, _, rfl, p, l, _, mvs, rfl, pen8, (by unfold penMax; omega), Or.inl m1, m4, by omega, fun x H9 mx b9 pen9 => ?_⟩
    have k9 := pen8.kd b9
    refine ⟨_, rfl, _, rfl, p, l, _, mvs, rfl, pen9, (by unfold penMax; omega), Or.inl (k9 _ _ rfl m1), m4, by omega, fun y H10 my b10 pen10 => ?_⟩
    have k10 := k9.trans (pen9.kd b10)
    refine ⟨_, rfl, _, rfl, p, l, _, mvs, rfl, pen10, (by unfold penMax; omega), Or.inl (k10 _ _ rfl m1), m4, by omega, fun z H11 mz b11 pen11 => ?_⟩
    have k11 := k10.trans (pen10.kd b11)
    obtain ⟨dx, hdx, tx⟩ := mem_dt m2 mx
    obtain ⟨dy, hdy, ty⟩ := mem_dt m2 my
    obtain ⟨dz, hdz, tz⟩ := mem_dt m2 mz
    refine ⟨(by show 3 ≤ sizeLine; decide), fun t nt => ⟨t, [x, y, z], rfl, SqT.of upd_same, rfl, _, _, rfl, _, _, rfl, _, _, rfl, rfl, ?_⟩⟩
    have s12 := sameNew (o := HO.tup [x, y, z]) nt
    have pen12 := pen11.same s12
    have k12 := k11.trans (kdOf s12)
    generalize upd H11 t (.tup [x, y, z]) = H12 at s12 pen12 k12
    have tx := tx.mono k12
    have ty := ty.mono k12
    have tz := tz.mono k12
    dsimp only
    refine go_seq ?_
    refine go_asg ?_
    refine lc_rng (n := 4) (b := fun _ => true) (f := beg [dx, dy, dz]) (by decide) arg_c (by intro _; rfl) (by intro _ _; exact et_yes) ?_ ?_
    · exact fun j hj _ => ⟨ed_beg rfl rfl rfl rfl hj tx ty tz (m3 _ hdx) (m3 _ hdy) (m3 _ hdz), rfl⟩
    intro D H13 ys nD s13 hD dues
    -- the error and its fields
    refine ⟨_, rfl, _, rfl, _, rfl, _, rfl, i, x, y, z, rfl, Nat.zero_le _, hi, fun t2 e fl H14 s14 ht2 hex hfl => ⟨t2, [.ref e, .ref fl], rfl, SqT.of ht2, rfl, _, _, rfl, _, _, rfl, rfl, ?_⟩⟩
    have hn := nf_le i
    have tx4 := (tx.same s13).same s14
    have ty4 := (ty.same s13).same s14
    have tz4 := (tz.same s13).same s14
    have fds : DtAll H14 ([x, y, z].take (nf.getD i 0)) ([dx, dy, dz].take (nf.getD i 0)) := DtAll.take _ (.cons tx4 (.cons ty4 (.cons tz4 .nil)))
    have tl : Tells (.tuple ([dx, dy, dz].take (nf.getD i 0))) := by
      refine tells_tup (fun d hd => ?_) (by rw [List.length_take]; show min _ 3 ≤ 3; omega)
      have hd := List.mem_of_mem_take hd
      simp only [List.mem_cons, List.not_mem_nil, or_false] at hd
      rcases hd with rfl | rfl | rfl
      · exact m3 _ hdx
      · exact m3 _ hdy
      · exact m3 _ hdz
    have len : ([x, y, z].take (nf.getD i 0)).length = nf.getD i 0 := by
      rw [List.length_take]
      show min _ 3 = _
      omega
    have due : ys[nf.getD i 0]? = some (.str (PyData.shown (.tuple ([dx, dy, dz].take (nf.getD i 0))))) := by
      have ed : (told 4 (fun _ => true) (beg [dx, dy, dz]))[nf.getD i 0]? = some (beg [dx, dy, dz] (nf.getD i 0)) := by
        generalize nf.getD i 0 = n at hn
        match n, hn with
        | 0, _ => rfl
        | 1, _ => rfl
        | 2, _ => rfl
        | 3, _ => rfl
      obtain ⟨v, hv, hd⟩ := dues.atD ed
      rw [hv]
      cases hd
      rfl
    have due2 : atI ys ((([x, y, z].take (nf.getD i 0)).length : Nat) : Int) = some (.str (PyData.shown (.tuple ([dx, dy, dz].take (nf.getD i 0))))) := by
      rw [len]
      exact atI_nat due
    refine ⟨_, rfl, _, _, rfl, .tup hfl fds, tl, _, rfl, _, rfl, fl, _, rfl, Or.inr (SqT.of hfl), Or.inl ⟨D, ys, _, _, rfl, rfl, SqL.of (s14 _ _ hD), due2, rfl, _, rfl, ?_⟩⟩
    refine iteNS (by simp) ?_
    obtain ⟨dd, hx1, hx2⟩ := hex
    refine ⟨_, rfl, e, cls K i, dd, _, _, _, rfl, hx1, hx2, T.ec i hi, fun u r => r, T.kitC i hi, _, rfl, ?_⟩
    refine iteF ?_
    refine ⟨_, rfl, e, cls K i, dd, _, _, _, rfl, hx1, hx2, T.ec i hi, fun u r => r, T.kitV i hi, _, rfl, ?_⟩
    refine iteF ?_
    refine ⟨_, rfl, e, i, rfl, hi, ⟨dd, hx1, hx2⟩, fun lk H15 s15 hlk => ?_⟩
    refine lc_rng (n := 15) (b := fun _ => true) (f := fun j => .bool (decide (j = i))) (by decide) arg_c (by intro _; rfl) (by intro _ _; exact et_yes) ?_ ?_
    · intro j hj _
      refine ⟨fun H1 e1 Q' q => ⟨_, rfl, _, rfl, rfl, q _ _ (Same.refl _) ?_⟩, rfl⟩
      have ej : decide (V.int (j : Int) = V.int (i : Int)) = decide (j = i) := by
        by_cases c : j = i
        · rw [c]; simp
        · rw [decide_eq_false c, decide_eq_false]
          intro z
          have := V.int.inj z
          omega
      show Dt H1 (.bl (decide (V.int (j : Int) = V.int (i : Int)))) (.bool (decide (j = i)))
      rw [ej]
      exact .bl _
    · intro D2 H16 ys2 nD2 s16 hD2 ks
      have kd1 : Dt H16 (.ref lk) (.list (((List.range 15).map fun j => decide (j = i)).map PyData.bool)) := by
        refine .lst (s16 _ _ hlk) ?_
        rw [List.map_map]
        generalize List.range 15 = L
        induction L with
        | nil => exact .nil
        | cons q L ih => exact .cons (.bl _) ih
      have kd2 : Dt H16 (.ref D2) (.list (((List.range 15).map fun j => decide (j = i)).map PyData.bool)) := by
        refine .lst hD2 ?_
        rw [List.map_map]
        exact ks
      refine ⟨_, _, kd1, kd2, shaped_bools _, shaped_bools _, _, rfl, ?_⟩
      have eq : PyData.eqv (.list (((List.range 15).map fun j => decide (j = i)).map PyData.bool)) (.list (((List.range 15).map fun j => decide (j = i)).map PyData.bool)) = true := by
        rw [PyData.eqv]
        exact eqv_bools _
      rw [eq]
      refine iteF ?_
      have kk : Kd H8 H16 := ((((k12.trans (kdOf s13)).trans (kdOf s14)).trans (kdOf s15)).trans (kdOf s16))
      exact ⟨_, _, _, _, _, _, _, rfl, ⟨mvs, mds, kk _ _ rfl m1, m2.mono kk, m3, m4, m5⟩, (((((pen12.same s13).same s14).same s15).same s16).le (by omega))⟩
  · rintro σ H' ⟨v3, v4, v5, v6, v7, v8, v9, rfl, _, _⟩
    exact fin H'
end
end K00

namespace K00
open PySem PySem.Spec
open PyProof.Rows hiding St
open L2 Cl
/-! ### the head -/
def fn0 : List He.DefD := [topD "_law_pen" (top 18), topD "_law_draw" (top 19), topD "_law_pick" (top 20), topD "_law_one" (top 21), topD "_law_more" (top 22), topD "_law_kinds" (top 23), topD "law" (top 24), metD "BadName" "__init__" "BadName.__init__" (inClass (top 4) 0), metD "TakenName" "__init__" "TakenName.__init__" (inClass (top 8) 0), metD "BadCell" "__init__" "BadCell.__init__" (inClass (top 5) 0), metD "NotThere" "__init__" "NotThere.__init__" (inClass (top 9) 0), metD "BadLand" "__init__" "BadLand.__init__" (inClass (top 6) 0), metD "BadArrangement" "__init__" "BadArrangement.__init__" (inClass (top 7) 0), metD "BadText" "__init__" "BadText.__init__" (inClass (top 2) 0), metD "BadNumber" "__init__" "BadNumber.__init__" (inClass (top 3) 0), metD "NoMove" "__init__" "NoMove.__init__" (inClass (top 10) 0), metD "NotKept" "__init__" "NotKept.__init__" (inClass (top 13) 0), metD "Unlike" "__init__" "Unlike.__init__" (inClass (top 11) 0), metD "TooMany" "__init__" "TooMany.__init__" (inClass (top 12) 0), metD "NoName" "__init__" "NoName.__init__" (inClass (top 14) 0)]
def fn : List He.DefD := fn0
def fa0 : List He.Fa := [.glo "_law_pen", .glo "_law_draw", .glo "_law_pick", .glo "_law_one", .glo "_law_more", .glo "_law_kinds", .glo "law", .free "len", .free "int", .free "list", .free "range", .free "repr", .free "isinstance", .free "ValueError", .glo "ClimbError", .glo "BadName", .noat "BadName" "name", .meth "BadName" "__init__", .glo "TakenName", .noat "TakenName" "name", .meth "TakenName" "__init__", .glo "BadCell", .noat "BadCell" "cell", .meth "BadCell" "__init__", .glo "NotThere", .noat "NotThere" "cell", .meth "NotThere" "__init__", .glo "BadLand", .noat "BadLand" "cells", .meth "BadLand" "__init__"]
def fa1 : List He.Fa := [.glo "BadArrangement", .noat "BadArrangement" "cells", .meth "BadArrangement" "__init__", .glo "BadText", .noat "BadText" "line", .noat "BadText" "column", .meth "BadText" "__init__", .glo "BadNumber", .noat "BadNumber" "what", .noat "BadNumber" "number", .meth "BadNumber" "__init__", .glo "NoMove", .noat "NoMove" "start", .noat "NoMove" "end", .meth "NoMove" "__init__", .glo "NotKept", .noat "NotKept" "promise", .noat "NotKept" "witness", .meth "NotKept" "__init__", .glo "Unlike", .noat "Unlike" "region", .noat "Unlike" "here", .noat "Unlike" "there", .meth "Unlike" "__init__", .glo "TooMany", .noat "TooMany" "what", .noat "TooMany" "many", .noat "TooMany" "limit", .meth "TooMany" "__init__", .glo "NoName"]
def fa2 : List He.Fa := [.noat "NoName" "name", .meth "NoName" "__init__", .glo "NothingToUndo", .exc "NothingToUndo", .glo "NothingToRedo", .exc "NothingToRedo"]
def fa : List He.Fa := fa0 ++ fa1 ++ fa2
def eK (K : PySem.W.Frag) (i j : Nat) : Bool := decide (PySem.W.kitOne K (.ref (cls K i)) (.ref (cls K j)) = some (decide (j = i)))
/-- the rest that is asked of the written part -/
def exB (K : PySem.W.Frag) : Bool :=
  ((List.range 15).all fun i => ecB K (cls K i)) && (((List.range 15).all fun i => (List.range 15).all fun j => eK K i j) &&
  (((List.range 15).all fun i => decide (PySem.W.kitOne K (.ref (cls K i)) (.ref (He.ga K "ClimbError")) = some true)) &&
  ((List.range 15).all fun i => decide (PySem.W.kitOne K (.ref (cls K i)) (.type "ValueError") = some true))))
theorem tx_of {w : World} {K : PySem.W.Frag} {h h' : Heap} {mg : Str → Option Value} (c : He.SaysX fa fn [] [] exB w h' K) (X : K.In h) (G : h.Ns mainGlobals mg) : Tx K mg := by
  have d := c.t.d
  obtain ⟨x1, x2⟩ := He.ba c.more
  obtain ⟨x2, x3⟩ := He.ba x2
  obtain ⟨x3, x4⟩ := He.ba x3
  have ec : ∀ i, i < 15 → EC K (cls K i) := fun i hi => ecB_ok (List.all_eq_true.mp x1 i (List.mem_range.mpr hi))
  exact {
    n_len := He.free_ok X G (d.fact 7 rfl)
    n_int := He.free_ok X G (d.fact 8 rfl)
    n_list := He.free_ok X G (d.fact 9 rfl)
    n_range := He.free_ok X G (d.fact 10 rfl)
    n_repr := He.free_ok X G (d.fact 11 rfl)
    n_isinstance := He.free_ok X G (d.fact 12 rfl)
    n_ValueError := He.free_ok X G (d.fact 13 rfl)
    g_ClimbError := He.glo_ok X G (d.fact 14 rfl)
    g_BadName := He.glo_ok X G (d.fact 15 rfl)
    ec_BadName := ec 0 (by decide)
    no_BadName_name := He.eqO_ok (d.fact 16 (f := .noat "BadName" "name") rfl)
    in_BadName := met_of d 7 17 rfl rfl fun F => F.bindsN fun _ _ _ _ _ _ us hl => match us, hl with | [_, _], _ => rfl
    g_TakenName := He.glo_ok X G (d.fact 18 rfl)
    ec_TakenName := ec 1 (by decide)
    no_TakenName_name := He.eqO_ok (d.fact 19 (f := .noat "TakenName" "name") rfl)
    in_TakenName := met_of d 8 20 rfl rfl fun F => F.bindsN fun _ _ _ _ _ _ us hl => match us, hl with | [_, _], _ => rfl
    g_BadCell := He.glo_ok X G (d.fact 21 rfl)
    ec_BadCell := ec 2 (by decide)
    no_BadCell_cell := He.eqO_ok (d.fact 22 (f := .noat "BadCell" "cell") rfl)
    in_BadCell := met_of d 9 23 rfl rfl fun F => F.bindsN fun _ _ _ _ _ _ us hl => match us, hl with | [_, _], _ => rfl
    g_NotThere := He.glo_ok X G (d.fact 24 rfl)
    ec_NotThere := ec 3 (by decide)
    no_NotThere_cell := He.eqO_ok (d.fact 25 (f := .noat "NotThere" "cell") rfl)
    in_NotThere := met_of d 10 26 rfl rfl fun F => F.bindsN fun _ _ _ _ _ _ us hl => match us, hl with | [_, _], _ => rfl
    g_BadLand := He.glo_ok X G (d.fact 27 rfl)
    ec_BadLand := ec 4 (by decide)
    no_BadLand_cells := He.eqO_ok (d.fact 28 (f := .noat "BadLand" "cells") rfl)
    in_BadLand := met_of d 11 29 rfl rfl fun F => F.bindsN fun _ _ _ _ _ _ us hl => match us, hl with | [_, _], _ => rfl
    g_BadArrangement := He.glo_ok X G (d.fact 30 rfl)
    ec_BadArrangement := ec 5 (by decide)
    no_BadArrangement_cells := He.eqO_ok (d.fact 31 (f := .noat "BadArrangement" "cells") rfl)
    in_BadArrangement := met_of d 12 32 rfl rfl fun F => F.bindsN fun _ _ _ _ _ _ us hl => match us, hl with | [_, _], _ => rfl
    g_BadText := He.glo_ok X G (d.fact 33 rfl)
    ec_BadText := ec 6 (by decide)
    no_BadText_line := He.eqO_ok (d.fact 34 (f := .noat "BadText" "line") rfl)
    no_BadText_column := He.eqO_ok (d.fact 35 (f := .noat "BadText" "column") rfl)
    in_BadText := met_of d 13 36 rfl rfl fun F => F.bindsN fun _ _ _ _ _ _ us hl => match us, hl with | [_, _, _], _ => rfl
    g_BadNumber := He.glo_ok X G (d.fact 37 rfl)
    ec_BadNumber := ec 7 (by decide)
    no_BadNumber_what := He.eqO_ok (d.fact 38 (f := .noat "BadNumber" "what") rfl)
    no_BadNumber_number := He.eqO_ok (d.fact 39 (f := .noat "BadNumber" "number") rfl)
    in_BadNumber := met_of d 14 40 rfl rfl fun F => F.bindsN fun _ _ _ _ _ _ us hl => match us, hl with | [_, _, _], _ => rfl
    g_NoMove := He.glo_ok X G (d.fact 41 rfl)
    ec_NoMove := ec 8 (by decide)
    no_NoMove_start := He.eqO_ok (d.fact 42 (f := .noat "NoMove" "start") rfl)
    no_NoMove_end := He.eqO_ok (d.fact 43 (f := .noat "NoMove" "end") rfl)
    in_NoMove := met_of d 15 44 rfl rfl fun F => F.bindsN fun _ _ _ _ _ _ us hl => match us, hl with | [_, _, _], _ => rfl
    g_NotKept := He.glo_ok X G (d.fact 45 rfl)
    ec_NotKept := ec 9 (by decide)
    no_NotKept_promise := He.eqO_ok (d.fact 46 (f := .noat "NotKept" "promise") rfl)
    no_NotKept_witness := He.eqO_ok (d.fact 47 (f := .noat "NotKept" "witness") rfl)
    in_NotKept := met_of d 16 48 rfl rfl fun F => F.bindsN fun _ _ _ _ _ _ us hl => match us, hl with | [_, _, _], _ => rfl
    g_Unlike := He.glo_ok X G (d.fact 49 rfl)
    ec_Unlike := ec 10 (by decide)
    no_Unlike_region := He.eqO_ok (d.fact 50 (f := .noat "Unlike" "region") rfl)
    no_Unlike_here := He.eqO_ok (d.fact 51 (f := .noat "Unlike" "here") rfl)
    no_Unlike_there := He.eqO_ok (d.fact 52 (f := .noat "Unlike" "there") rfl)
    in_Unlike := met_of d 17 53 rfl rfl fun F => F.bindsN fun _ _ _ _ _ _ us hl => match us, hl with | [_, _, _, _], _ => rfl
    g_TooMany := He.glo_ok X G (d.fact 54 rfl)
    ec_TooMany := ec 11 (by decide)
    no_TooMany_what := He.eqO_ok (d.fact 55 (f := .noat "TooMany" "what") rfl)
    no_TooMany_many := He.eqO_ok (d.fact 56 (f := .noat "TooMany" "many") rfl)
    no_TooMany_limit := He.eqO_ok (d.fact 57 (f := .noat "TooMany" "limit") rfl)
    in_TooMany := met_of d 18 58 rfl rfl fun F => F.bindsN fun _ _ _ _ _ _ us hl => match us, hl with | [_, _, _, _], _ => rfl
    g_NoName := He.glo_ok X G (d.fact 59 rfl)
    ec_NoName := ec 12 (by decide)
    no_NoName_name := He.eqO_ok (d.fact 60 (f := .noat "NoName" "name") rfl)
    in_NoName := met_of d 19 61 rfl rfl fun F => F.bindsN fun _ _ _ _ _ _ us hl => match us, hl with | [_, _], _ => rfl
    g_NothingToUndo := He.glo_ok X G (d.fact 62 rfl)
    ec_NothingToUndo := ec 13 (by decide)
    xq_NothingToUndo := (He.exc_ok (d.fact 63 (f := .exc "NothingToUndo") rfl)).1
    g_NothingToRedo := He.glo_ok X G (d.fact 64 rfl)
    ec_NothingToRedo := ec 14 (by decide)
    xq_NothingToRedo := (He.exc_ok (d.fact 65 (f := .exc "NothingToRedo") rfl)).1
    kit := fun i j hi hj => of_decide_eq_true (List.all_eq_true.mp (List.all_eq_true.mp x2 i (List.mem_range.mpr hi)) j (List.mem_range.mpr hj))
    kitC := fun i hi => of_decide_eq_true (List.all_eq_true.mp x3 i (List.mem_range.mpr hi))
    kitV := fun i hi => of_decide_eq_true (List.all_eq_true.mp x4 i (List.mem_range.mpr hi)) }
abbrev R : PySem.W.OpenRow := PySem.W.OpenLaw.row PySem.Challenge.rw_clamberhouse_k00_errors
abbrev hk : PySem.W.Hook := He.hookX 6 fa fn [] [] exB
def ob (s : PySem.W.SharedT) : He.AlX := He.obsX 6 fa fn [] [] exB (HandSHeadRun.getT s)
theorem ob_eq (s : PySem.W.SharedT) : ob s = hk.obs s.abs := He.obsX_eq (HandSHeadRun.getT_eq s)
def loose : List Str := ["ClimbError", "BadText", "BadNumber", "BadName", "BadCell", "BadLand", "BadArrangement", "TakenName", "NotThere", "NoMove", "Unlike", "TooMany", "NotKept", "NoName", "NothingToUndo", "NothingToRedo", "_law_pen", "_law_draw", "_law_pick", "_law_one", "_law_more", "_law_kinds"]
theorem run (w : World) : HandSHeadRun.RunEq R (PySem.W.view R.prog [24]) hk ob 20000 loose w := by
  intro os
  kernel_rfl
theorem facts {P : Program} {w : World} {K : PySem.W.Frag} {h h' : Heap} {mg : Str → Option Value} {f : Addr} (X : K.In h) (G : h.Ns mainGlobals mg) (hfa : mg ("law" : Str) = some (.ref f)) (sx : He.SaysX fa fn [] [] exB w h' K) :
    ∃ fd : FuncData, (∀ (s : Shared) (v : Value), BindsTo s fd ⟨[v], []⟩ [("script", v)]) ∧ ∀ base : Heap, K.In base → base.Ns mainGlobals mg → FnG P w K mg base 5 f fd ["script"] (spLaw K) := by
  have T := tx_of sx X G
  have c := sx.t.d
  obtain ⟨fd, F⟩ := c.def_ 6 (d := topD "law" (top 24)) rfl
  have e := hfa.symm.trans (He.glo_ok X G (c.fact 6 (f := .glo "law") rfl))
  cases e
  have b := FunD.bindsA (ps := ["script"]) F fun _ _ _ _ _ _ us hl => match us, hl with | [_], _ => rfl
  refine ⟨fd, fun s v => b s [v] rfl, fun base _ _ => ?_⟩
  have D1 : Def P w K mg base "_law_pen" 1 _ _ := ok_law_pen T (top_of c X G 0 0 rfl rfl fun F => F.bindsN fun _ _ _ _ _ _ us hl => match us, hl with | [_], _ => rfl)
  have D2 : Def P w K mg base "_law_draw" 1 _ _ := ok_law_draw T (top_of c X G 1 1 rfl rfl fun F => F.bindsN fun _ _ _ _ _ _ us hl => match us, hl with | [_, _], _ => rfl)
  have D3 : Def P w K mg base "_law_pick" 2 _ _ := ok_law_pick T (top_of c X G 2 2 rfl rfl fun F => F.bindsN fun _ _ _ _ _ _ us hl => match us, hl with | [_, _], _ => rfl) D2
  have D4 : Def P w K mg base "_law_kinds" 1 _ _ := ok_law_kinds T (top_of c X G 5 5 rfl rfl fun F => F.bindsN fun _ _ _ _ _ _ us hl => match us, hl with | [_], _ => rfl)
  have D5 : Def P w K mg base "_law_more" 3 _ _ := ok_law_more T (top_of c X G 4 4 rfl rfl fun F => F.bindsN fun _ _ _ _ _ _ us hl => match us, hl with | [_, _, _, _], _ => rfl)
  have D6 : Def P w K mg base "_law_one" 4 _ _ := ok_law_one T (top_of c X G 3 3 rfl rfl fun F => F.bindsN fun _ _ _ _ _ _ us hl => match us, hl with | [_, _, _, _], _ => rfl) D5
  exact ok_law T F D1 D2 D3 D6 D4
end K00
theorem PySem.Challenge.cw_clamberhouse_k00_errors_holds : PySem.Challenge.rw_clamberhouse_k00_errors.Holds := by
  w_on; o_law
  refine HandSHeadRun.head_any (r := PySem.W.OpenLaw.row PySem.Challenge.rw_clamberhouse_k00_errors) (q := PySem.W.view (PySem.W.OpenLaw.row PySem.Challenge.rw_clamberhouse_k00_errors).prog [24]) (H := K00.hk) (ob := K00.ob) (M := 20000) (loose := K00.loose) (d := HandSHeadRun.topDef (PySem.W.OpenLaw.row PySem.Challenge.rw_clamberhouse_k00_errors).prog 24) (kwd := []) K00.ob_eq
    (by kernel_rfl) (fun s => by kernel_rfl) K00.run (by kernel_rfl) (by kernel_rfl) (by kernel_rfl) (by rfl) (by first | assumption | decide +kernel) (by decide +kernel) ⟨rfl, rfl, rfl, rfl, rfl, by decide +kernel⟩ ?hw ?hc
  case hw => w_witness2
  case hc =>
    refine Cl.walk_gE (l := PySem.Challenge.rw_clamberhouse_k00_errors) (n := 63) (k := 5) (x := "script") rfl (by decide) (by kernel_rfl) ⟨rfl, by decide, by decide⟩ ?F
    intro w mg fa h Y G hmg0
    obtain ⟨K, KX, c⟩ := Y
    have hmg : mg ("law" : PySem.Str) = some (.ref fa) := by
      have e : (HandSHeadRun.topDef (PySem.W.OpenLaw.row PySem.Challenge.rw_clamberhouse_k00_errors).prog 24).name = ("law" : PySem.Str) := by kernel_rfl
      rw [← e]
      exact hmg0
    obtain ⟨fd, hb, hF⟩ := K00.facts (P := (PySem.Challenge.rw_clamberhouse_k00_errors).prog) (w := w) KX G hmg c
    exact ⟨K, fd, K00.spLaw K, KX, hb, fun H a ns hl _ hS => ⟨a, ns, rfl, hS, hl, fun _ => rfl⟩, hF⟩

