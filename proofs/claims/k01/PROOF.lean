import PyProof.Rows.All
import Wide.All
import OpenK.AllK
import Wide.FinOn
import HandS.ForMost
import HandS.ForExc
import HandS.Defaults
import HandS.RaiseMore
import HandS.TupAny
import HandS.ExcInit
import KE.KExcIs
import HandS.ExcValue
import HandS.HeadHook4
import HandS.Head2
import HandS.HeadEnd
import HandS.ExcField
import HandS.Lambda
import HandS.HeadWalk
import HandS.DictComp
import HandS.DictTup
import HandS.Conv
import HandS.SortRule
import KE.KDictPairs
import HandS.TupSets
import HandS.IsInst
import HandS.Zip
import HandS.TupMul
import HandS.Style
import HandS.Deep
import KE.KDictDisplayH
import KE.KDictKeyed
import PyProof.Rows.SeqRoads
import PySem.Challenge.RW_clamberhouse_k01_cells
set_option Elab.async false
set_option linter.all false
set_option maxRecDepth 100000
set_option maxHeartbeats 4000000
/-! Lay1: defs that are called where no repr is under way (the around's guards are told), their calls, the law's end. -/
namespace Cl
open PySem PySem.Spec
open PyProof.Rows hiding St
open L2

/-- a def's promise, for callers of whom it is known that no guard stands on the stack -/
structure FnG (P : Program) (w : World) (K : PySem.W.Frag) (mg : Str → Option Value)
    (base : Heap) (k : Nat) (f : Addr) (fd : FuncData) (ps : List Str) (sp : Sp) : Prop where
  size : ∀ {vs H Q E}, sp vs H Q E → vs.length = ps.length
  go : ∀ {A : Around} {fr : List Env} {s : Shared} {H : Hp} {args : Args}
    {us : List Value} {vs : List V} {Q : VK} {E : XK}, Room k A → A.guards = some [] →
    Env0 P w K mg base A fr s H → BindsTo s fd args (ps.zip us) → Vals vs us → sp vs H Q E →
    codeAny (model P w) A (.call (.ref f) args) (CR (L2.CX P w) fr P w H s Q E) s

theorem FnG.up {P : Program} {w : World} {K : PySem.W.Frag} {mg : Str → Option Value} {base : Heap}
    {j k : Nat} {f : Addr} {fd : FuncData} {ps : List Str} {sp : Sp}
    (F : FnG P w K mg base j f fd ps sp) (h : j ≤ k) : FnG P w K mg base k f fd ps sp :=
  ⟨F.size, fun hr => F.go (hr.mono h)⟩

/-- the def's own context: what its body runs in -/
abbrev Bd (P : Program) (w : World) (K : PySem.W.Frag) (mg : Str → Option Value) (base : Heap)
    (N : List Str) (qual : Str) (sc : Scope) (f : Addr) (cd : Value) (A : Around) (fr : List Env)
    (s : Shared) (H : Hp) (E : XK) : Cx :=
  cxOf (L2.CX P w) P w K mg base N qual sc f cd A fr s H E

/-- a def of the text st (no defaults) as it stands at f -/
abbrev FnAt (K : PySem.W.Frag) (x qual : Str) (st : Stmt) (f : Addr) (fd : FuncData) : Prop :=
  FunD K x qual (defArgs st) (defBody st) (defScope st) [] [] f fd

/-- a def by its body -/
theorem FnG.of {P : Program} {w : World} {K : PySem.W.Frag} {mg : Str → Option Value} {base : Heap}
    {x qual : Str} {ar : Arguments} {bd : List Stmt} {sc : Scope} {dv : List V} {kw : List (Str × V)}
    {f : Addr} {fd : FuncData} {N ps : List Str} {k : Nat} {sp : Sp}
    (F : FunD K x qual ar bd sc dv kw f fd) (S : FnScope N ps sc)
    (size : ∀ {vs H Q E}, sp vs H Q E → vs.length = ps.length)
    (body : ∀ (cd : Value) (A : Around) (fr : List Env) (s : Shared) (H : Hp) (vs : List V) (Q : VK) (E : XK),
      Room k (Bd P w K mg base N qual sc f cd A fr s H E).A →
      (Bd P w K mg base N qual sc f cd A fr s H E).A.guards = some [] → sp vs H Q E →
      ∃ t, PSs (Bd P w K mg base N qual sc f cd A fr s H E) bd t ∧
        t { nx := fun _ H' => Q .non H', rt := Q } (start N vs) H) :
    FnG P w K mg base (k + 1) f fd ps sp := by
  refine ⟨size, ?_⟩
  intro A fr s H args us vs Q E hr hgd e0 hb rel hsp
  obtain ⟨oc, od, dV, kV, doc, pm, an, cdv, ct, osl, rfl, lk, hcd, _, _⟩ := F.ex
  have lenv := size hsp
  have inK : K.In s.heap := e0.mod.kin.keeps fun b o q => (e0.bs b o q).1
  have noL : s.heap.NoLimit := e0.mod.nolimit.keeps fun b o q => (e0.bs b o q).1
  refine codeAny_call_function hr.depth (inK _ _ lk) rfl S.co S.gen rfl
    (PySem.W.codeRec_of inK hcd) (hb _ _ _ _ ?_)
  refine wpAny_newFunctionEnv_cells S.kind (fun y hy => ?_) fun env he s1 ic => ?_
  · obtain ⟨n, v⟩ := y
    cases S.par n (List.of_mem_zip hy).1 with
    | inl q => exact Or.inl q
    | inr q => exact Or.inr ⟨q, PySem.W.cellsFrom_some _ _ _ (Or.inl q)⟩
  subst he
  refine ⟨noL.keeps ic.toInCall.keep, codeAny_func ?_⟩
  obtain ⟨t, derive, reads⟩ := body cdv A fr s H vs Q E (hr.deeper _) hgd hsp
  have I0 := inv_start (CX := L2.CX P w) (E := E) (qual := qual) S hr.hd e0 lenv rel ic
  refine wpAny_mono (derive.run [] s1 _ H _ I0 reads) (fun fl s' out => ?_) fun _ _ z => z
  cases fl with
  | ret u =>
    obtain ⟨v, σ', H', J, rv, q⟩ := out
    exact ⟨v, H', J.os, J.bare, J.base, J.hok, rv, q⟩
  | next =>
    obtain ⟨σ', H', J, q⟩ := out
    exact ⟨V.non, H', J.os, J.bare, J.base, J.hok, rfl, q⟩
  | brk =>
    obtain ⟨_, _, _, q⟩ := out
    exact False.elim q
  | cont =>
    obtain ⟨_, _, _, q⟩ := out
    exact False.elim q

/-- a def that is a name of the module: where it stands, what it promises -/
structure Def (P : Program) (w : World) (K : PySem.W.Frag) (mg : Str → Option Value) (base : Heap)
    (x : Str) (k : Nat) (ps : List Str) (sp : Sp) : Prop where
  ex : ∃ (f : Addr) (fd : FuncData), FnG P w K mg base k f fd ps sp ∧ mg x = some (.ref f) ∧
    PySem.W.keepIn K (.ref f) = true ∧ Binds K fd ps []
theorem Def.up {P : Program} {w : World} {K : PySem.W.Frag} {mg : Str → Option Value} {base : Heap} {x : Str}
    {j k : Nat} {ps : List Str} {sp : Sp} (D : Def P w K mg base x j ps sp) (h : j ≤ k) : Def P w K mg base x k ps sp := by
  obtain ⟨f, fd, F, r⟩ := D.ex
  exact ⟨f, fd, F.up h, r⟩
/-- what of a def stands in the written part -/
structure Top (K : PySem.W.Frag) (mg : Str → Option Value) (x : Str) (st : Stmt) (ps : List Str) : Prop where
  ex : ∃ (f : Addr) (fd : FuncData), FnAt K x x st f fd ∧ mg x = some (.ref f) ∧ Binds K fd ps []
theorem Def.of {P : Program} {w : World} {K : PySem.W.Frag} {mg : Str → Option Value} {base : Heap}
    {x : Str} {st : Stmt} {N ps : List Str} {k : Nat} {sp : Sp}
    (T : Top K mg x st ps) (S : FnScope N ps (defScope st))
    (size : ∀ {vs H Q E}, sp vs H Q E → vs.length = ps.length)
    (body : ∀ (f : Addr) (cd : Value) (A : Around) (fr : List Env) (s : Shared) (H : Hp) (vs : List V) (Q : VK) (E : XK),
      Room k (Bd P w K mg base N x (defScope st) f cd A fr s H E).A →
      (Bd P w K mg base N x (defScope st) f cd A fr s H E).A.guards = some [] → sp vs H Q E →
      ∃ t, PSs (Bd P w K mg base N x (defScope st) f cd A fr s H E) (defBody st) t ∧
        t { nx := fun _ H' => Q .non H', rt := Q } (start N vs) H) :
    Def P w K mg base x (k + 1) ps sp := by
  obtain ⟨f, fd, F, hm, hb⟩ := T.ex
  exact ⟨f, fd, FnG.of F S size (body f), hm, F.kp, hb⟩

section
variable {X : Cx} {k : Nat} {f : Addr} {fd : FuncData} {ps : List Str} {sp : Sp} {E : St → XK}

/-- the callee runs -/
theorem runG {pins : List (Addr × Obj)} {σ : St} {H : Hp} {s : Shared} {Q : VK} {us : List Value} {vs : List V}
    (F : FnG X.prog X.w X.K X.mg X.base k f fd ps sp) (hr : Room k X.A) (hgd : X.A.guards = some [])
    (hb : Binds X.K fd ps []) (hx : PassesAt (L2.CX X.prog X.w) X σ (E σ))
    (I : Inv X pins σ H s) (r : Vals vs us) (h : sp vs H Q (E σ)) :
    wpAny (model X.prog X.w) X.A (call (.ref f) us) (EP X pins σ Q) X.xe s := by
  have hl : (us ++ []).length = ps.length := by
    rw [List.append_nil, ← r.length]
    exact F.size h
  have bt := hb s us I.kIn hl
  rw [List.append_nil] at bt
  refine wpAny_call (codeAny_mono (F.go hr hgd I.env0 bt r h) fun res s' out => ?_)
  match res, out with
  | .error e, out => exact hx pins H s e s' I out
  | .ok (.ret u), out => exact I.after out
  | .ok .next, out => exact False.elim out
  | .ok .brk, out => exact False.elim out
  | .ok .cont, out => exact False.elim out

variable {x : Str} {p pos : Pos} {e : Expr} {es : List Expr} {t : TA}
/-- f(e, ..) -/
theorem pe_g (F : FnG X.prog X.w X.K X.mg X.base k f fd ps sp) (hr : Room k X.A) (hgd : X.A.guards = some [])
    (hg : Gl X x) (hm : X.mg x = some (.ref f)) (hk : PySem.W.keepIn X.K (.ref f) = true) (hb : Binds X.K fd ps [])
    (hx : ∀ σ, PassesAt (L2.CX X.prog X.w) X σ (E σ)) (ha : PA X (e :: es) t)
    (hdb : (x == ("__debug__" : Str)) = false := by decide)
    (he : starEach (e :: es) X.env = (false, eval e X.env) :: starEach es X.env := by rfl)
    (hpl : (backTo pos (starEach es X.env)).any (·.1) = false := by rfl) :
    PE X (.Call (.Name x p) (e :: es) [] pos) (tCallS sp E t) := by
  constructor
  intro pins s σ H Q I h
  refine wpAny_Call_Name_kw (ld_glob I hg hm ?_ hdb)
  refine PySem.W.callWith_K (h₀ := X.base) I.ok.mod.kin hk (thn (ha.run pos pins s σ H _ I h) ?_) he hpl
  rintro us s1 ⟨vs, H1, I1, r, q⟩
  exact ⟨I1.kIn, runG F hr hgd hb (hx σ) I1 r q⟩
/-- f() -/
theorem pe_g0 (F : FnG X.prog X.w X.K X.mg X.base k f fd ps sp) (hr : Room k X.A) (hgd : X.A.guards = some [])
    (hg : Gl X x) (hm : X.mg x = some (.ref f)) (hk : PySem.W.keepIn X.K (.ref f) = true) (hb : Binds X.K fd ps [])
    (hx : ∀ σ, PassesAt (L2.CX X.prog X.w) X σ (E σ)) (hdb : (x == ("__debug__" : Str)) = false := by decide) :
    PE X (.Call (.Name x p) [] [] pos) (tCallS sp E tNil) := by
  constructor
  intro pins s σ H Q I h
  refine wpAny_Call_Name_kw (ld_glob I hg hm ?_ hdb)
  exact PySem.W.callWith_K0 I.kIn hk (runG (us := []) F hr hgd hb (hx σ) I .nil h)
end

section
variable {X : Cx} {k : Nat} {ps : List Str} {sp : Sp} {E : St → XK} {x : Str} {p pos : Pos} {e : Expr} {es : List Expr} {t : TA}
/-- f(e, ..), f a def of the module -/
theorem pe_d (D : Def X.prog X.w X.K X.mg X.base x k ps sp) (hr : Room k X.A) (hgd : X.A.guards = some [])
    (hg : Gl X x) (hx : ∀ σ, PassesAt (L2.CX X.prog X.w) X σ (E σ)) (ha : PA X (e :: es) t)
    (hdb : (x == ("__debug__" : Str)) = false := by decide)
    (he : starEach (e :: es) X.env = (false, eval e X.env) :: starEach es X.env := by rfl)
    (hpl : (backTo pos (starEach es X.env)).any (·.1) = false := by rfl) :
    PE X (.Call (.Name x p) (e :: es) [] pos) (tCallS sp E t) := by
  obtain ⟨f, fd, F, hm, hk, hb⟩ := D.ex
  exact pe_g F hr hgd hg hm hk hb hx ha hdb he hpl
end

/-- nothing that is raised leaves -/
abbrev Eno : St → XK := fun _ => E0
theorem passNo {X : Cx} (σ : St) : PassesAt (L2.CX X.prog X.w) X σ (Eno σ) := by
  intro pins H s e s' I c
  obtain ⟨_, _, _, _, _, _, _, _, _, _, _, _, z⟩ := c
  exact z.elim

/-- a def, a class of the module as a value; a built-in class as a value -/
theorem pe_gref {X : Cx} {x : Str} {a : Addr} {pos : Pos} (hg : Gl X x) (hm : X.mg x = some (.ref a)) (hd : (x == ("__debug__" : Str)) = false := by decide) : PE X (.Name x pos) (tC (.ref a)) :=
  pe_glob hg hm rfl hd
theorem pe_gty {X : Cx} {x : Str} {n : String} {pos : Pos} (hg : Gl X x) (hm : X.mg x = none) (hv : bootBuiltins x = some (.type n)) (hn : x ≠ "__name__" := by decide) (hd : (x == ("__debug__" : Str)) = false := by decide) :
    PE X (.Name x pos) (tC (.ty n)) := pe_bltn hg hm hv rfl hn hd

/-! ### a word between two statements -/
/-- first t, up to the word M; from there u -/
def tMid (t u : TS) : TS := fun D σ H => ∃ M : St → Hp → Prop, t ⟨M, D.rt, D.bk, D.ct⟩ σ H ∧ ∀ σ' H', M σ' H' → u D σ' H'
theorem pss_mid {X : Cx} {a : Stmt} {bs : List Stmt} {t u : TS} (ha : PS X a t) (hb : PSs X bs u) : PSs X (a :: bs) (tMid t u) := by
  constructor
  intro pins s σ H D I h
  obtain ⟨M, first, next⟩ := h
  refine wpAny_execs_cons (thn (ha.run pins s σ H _ I first) ?_)
  intro fl s1 q
  cases fl with
  | next =>
    obtain ⟨σ1, H1, I1, q1⟩ := q
    exact hb.run pins s1 σ1 H1 D I1 (next σ1 H1 q1)
  | ret v => exact q
  | brk => exact q
  | cont => exact q

/-! ### the law's end -/
/-- the script as the abstract heap at the law's entry bears it -/
def scriptH (K : PySem.W.Frag) (a : Addr) (vs : List Value) (ns : List Int) : Hp := fun b =>
  if b = a ∧ (K.lookup a).isSome = false then
    some (.frz { cls := .type "list", data := .seq vs.toArray } (.lst (ns.map V.int)))
  else none
theorem scriptH_or {K : PySem.W.Frag} {a b : Addr} {vs : List Value} {ns : List Int} :
    scriptH K a vs ns b = none ∨ (b = a ∧ K.lookup a = none ∧ scriptH K a vs ns b =
      some (.frz { cls := .type "list", data := .seq vs.toArray } (.lst (ns.map V.int)))) := by
  unfold scriptH
  by_cases c : b = a ∧ (K.lookup a).isSome = false
  · rw [if_pos c]
    refine Or.inr ⟨c.1, ?_, rfl⟩
    cases q : K.lookup a with
    | none => rfl
    | some o => rw [q] at c; exact absurd c.2 (by simp)
  · rw [if_neg c]
    exact Or.inl rfl

theorem law_g {P : Program} {w : World} {K : PySem.W.Frag} {mg mb : Str → Option Value} {k : Nat} {fa a : Addr}
    {fd : FuncData} {x : Str} {sp : Sp} {s₁ : Shared} {vs : List Value} {ns : List Int}
    (KX : K.In s₁.heap) (hns : s₁.heap.Ns mainGlobals mg) (hb : s₁.heap.Ns builtinsNs mb)
    (hbb : ∀ x : Str, x ≠ "__name__" → mb x = bootBuiltins x) (hlim : s₁.heap.NoLimit) (hg : s₁.gens = #[])
    (ha : s₁.heap.get? a = some { cls := .type "list", data := .seq vs.toArray }) (hi : IntsAre vs ns)
    (hl : ns.length ≤ sizeLine) (hr : Room k callerA)
    (F : ∀ base : Heap, K.In base → base.Ns mainGlobals mg → FnG P w K mg base k fa fd [x] sp)
    (hbind : ∀ (s : Shared) (u : Value), BindsTo s fd ⟨[u], []⟩ [(x, u)])
    (hsp : ∀ H : Hp, (∀ b xs, H b ≠ some (.tup xs)) → SqL K H a (ns.map V.int) →
      sp [.ref a] H (fun v _ => v = .bl true) fun _ _ _ => False) :
    codeAny (model P w) callerA (.call (.ref fa) ⟨[.ref a], []⟩)
      (fun r s' => r = .ok (.ret (.bool true)) ∧ OldK s₁.heap s'.heap ∧ s'.os = s₁.os ∧ AllBare s'.gens) s₁ := by
  have rv := vals_ints hi
  have lenV := hi.length
  generalize hH : scriptH K a vs ns = H
  have at_ : ∀ b, H b = none ∨ (b = a ∧ K.lookup a = none ∧ H b = some (.frz { cls := .type "list", data := .seq vs.toArray } (.lst (ns.map V.int)))) := by
    intro b
    rw [← hH]
    exact scriptH_or
  have free_of : ∀ {b : Addr} {o : Obj}, s₁.heap.get? b = some o → (∀ n, o.data ≠ .seq vs.toArray n) → H b = none := by
    intro b o e d
    rcases at_ b with z | ⟨rfl, _, _⟩
    · exact z
    · rw [ha] at e
      cases e
      exact absurd rfl (d _)
  have hokH : HOk P w H s₁.heap := by
    intro b u e
    rcases at_ b with z | ⟨rfl, _, z⟩
    · rw [z] at e
      cases e
    · rw [z] at e
      cases e
      exact ⟨ha, by rw [List.length_map]; exact hl, vs, _, rv, ha⟩
  have seqS : SqL K H a (ns.map V.int) := by
    cases hk : K.lookup a with
    | some o =>
      have e := KX a o hk
      rw [ha] at e
      cases e
      exact Or.inr ⟨_, vs.toArray, _, hk, rfl, rfl, rfl, by rw [List.size_toArray, lenV]; exact hl, rv⟩
    | none =>
      refine Or.inl (Or.inr ⟨{ cls := .type "list", data := .seq vs.toArray }, ?_⟩)
      rw [← hH]
      unfold scriptH
      rw [if_pos ⟨rfl, by rw [hk] <;> rfl⟩]
  have nsK : ∀ {b : Addr} {m : Str → Option Value}, s₁.heap.Ns b m → (hidT s₁.heap H).Ns b m := by
    rintro b m ⟨o, es, ep, e, d, r⟩
    exact ⟨o, es, ep, hidT_get e (free_of e fun n q => by rw [d] at q; cases q), d, r⟩
  have kinB : K.In (hidT s₁.heap H) := by
    intro b o e
    refine hidT_get (KX b o e) ?_
    rcases at_ b with z | ⟨rfl, q, _⟩
    · exact z
    · rw [q] at e
      cases e
  obtain ⟨mc, l1, l2⟩ := hlim
  have modB : Mod K mg (hidT s₁.heap H) := ⟨kinB, nsK hns, ⟨mb, nsK hb, hbb⟩, mc, nsK l1, l2⟩
  have e0 : Env0 P w K mg (hidT s₁.heap H) callerA [] s₁ H := by
    refine ⟨rfl, modB, fun b o e => of_hidT e, Nat.le_of_eq (hidT_size _ _), trivial, ?_, hokH, .of_eq hg⟩
    intro b hb'
    cases hb'
  have G := F (hidT s₁.heap H) kinB (nsK hns)
  refine codeAny_mono (G.go hr rfl e0 (us := [.ref a]) (vs := [.ref a]) (hbind s₁ (.ref a)) (.cons rfl .nil)
    (hsp H (fun b xs z => ?_) seqS)) fun res s' out => ?_
  · rcases at_ b with q | ⟨_, _, q⟩ <;> rw [q] at z <;> cases z
  match res, out with
  | .error e, out =>
    obtain ⟨_, _, _, _, _, _, _, _, _, _, _, _, z⟩ := out
    exact z.elim
  | .ok .next, out => exact False.elim out
  | .ok .brk, out => exact False.elim out
  | .ok .cont, out => exact False.elim out
  | .ok (.ret u), out =>
    obtain ⟨v, H', os, bare, un, hok', r', rfl⟩ := out
    obtain rfl : u = Value.bool true := r'
    refine ⟨rfl, OldK.of_keep fun b o e => ?_, os, bare⟩
    rcases at_ b with q | ⟨_, _, q⟩
    · exact un.keep b o e q (fun z => by cases z) (fun z => by cases z)
    · have z2 := un.frzs b _ _ q
      obtain ⟨e1, _⟩ := hokH b _ q
      obtain ⟨e2, _⟩ := hok' b _ z2
      rw [e] at e1
      cases e1
      exact e2

/-- the goal that the head leaves, from the law's promise -/
theorem walk_g {l : PySem.W.OpenLaw} {n k : Nat} {q : Program} {loose : List Str} {XP : (Str → Option Value) → Heap → Prop}
    {YP : World → Heap → Prop} {d : DefRec} {K : Params → PySem.W.Frag} {sp : PySem.W.Frag → Sp} {x : Str}
    (hn : l.most = some n) (hn2 : n ≤ sizeLine) (hdf : d.params.defaults = []) (hr : Room k callerA)
    (hY : ∀ (w : World) (h : Heap), YP w h → (K w.params).In h)
    (F : ∀ (w : World) (mg : Str → Option Value) (fa : Addr) (h : Heap), (K w.params).In h → h.Ns mainGlobals mg →
      mg d.name = some (.ref fa) →
      ∃ fd : FuncData, (∀ (s : Shared) (u : Value), BindsTo s fd ⟨[u], []⟩ [(x, u)]) ∧
        ∀ base : Heap, (K w.params).In base → base.Ns mainGlobals mg →
          FnG l.prog w (K w.params) mg base k fa fd [x] (sp (K w.params)))
    (hsp : ∀ (K : PySem.W.Frag) (H : Hp) (a : Addr) (ns : List Int), ns.length ≤ n → (∀ b xs, H b ≠ some (.tup xs)) →
      SqL K H a (ns.map V.int) → sp K [.ref a] H (fun v _ => v = .bl true) fun _ _ _ => False) :
    PySem.W.WalkO q loose XP YP l.row.toRowW d [] (fun f vs => PySem.call f vs) := by
  refine Att.attach_call hn hdf ?_
  intro w s₀ s₁ mg mb fa o pm cd doc a vs ns G Y ho hd hcd hmg hobj hints hlen hg
  have KX := hY w _ Y
  obtain ⟨fd, hb, hF⟩ := F w mg fa _ KX G.T.g hmg
  exact law_g KX G.T.g G.T.b G.T.builtins G.T.nolimit hg hobj hints (Nat.le_trans hlen hn2) hr hF hb
    fun H hN hS => hsp _ H a ns hlen hN hS
end Cl

/-! LayK: rules whose reading names the written part K, with K given (for blocks within a def). -/
namespace Cl
open PySem PySem.Spec
open PyProof.Rows hiding St
open L2
section
variable (K : PySem.W.Frag) {X : Cx}
theorem kSlT (h : X.K = K := by rfl) : SlR X (rSlA K) := by subst h; exact sl_tupA
theorem kSlL (h : X.K = K := by rfl) : SlR X (rSlL K) := by subst h; exact sl_list
theorem kIxL (h : X.K = K := by rfl) : IxR X (rIxL K) := by subst h; exact ix_list
theorem kIxT (h : X.K = K := by rfl) : IxR X (rIxT K) := by subst h; exact ix_tup
theorem kIx (h : X.K = K := by rfl) : IxR X (rIx K) := by subst h; exact ix_seq
theorem kIn (h : X.K = K := by rfl) : OpR X (compareOp .In) (rIn K false) := by subst h; exact op_in_seq
theorem kNotIn (h : X.K = K := by rfl) : OpR X (compareOp .NotIn) (rIn K true) := by subst h; exact op_notIn_seq
theorem kCatT (h : X.K = K := by rfl) : OpR X (binaryOp .Add) (rCatA K) := by subst h; exact op_catA
def rLenQ (K : PySem.W.Frag) : List V → Hp → VK → Prop := fun xs H Q => ∃ p ys, xs = [.ref p] ∧ (SqL K H p ys ∨ SqT K H p ys) ∧ Q (.int ys.length) H
theorem kLen (h : X.K = K := by rfl) : CallR X (.builtin "len") (rLenQ K) := by subst h; exact call_len_seq
def rListQ (K : PySem.W.Frag) : List V → Hp → VK → Prop := fun xs H Q => ∃ p ys, xs = [.ref p] ∧ (SqL K H p ys ∨ SqT K H p ys) ∧ ∀ l, H l = none → Q (.ref l) (upd H l (.lst ys))
theorem kList (h : X.K = K := by rfl) : CallR X (.type "list") (rListQ K) := by subst h; exact call_list_of
def rTupleQ (K : PySem.W.Frag) : List V → Hp → VK → Prop := fun xs H Q => ∃ p ys, xs = [.ref p] ∧ ((SqL K H p ys ∧ ∀ l, H l = none → Q (.ref l) (upd H l (.tup ys))) ∨ (SqT K H p ys ∧ Q (.ref p) H))
theorem kTuple (h : X.K = K := by rfl) : CallR X (.type "tuple") (rTupleQ K) := by subst h; exact call_tuple_of
theorem kSum (hc : X.calm = true) (h : X.K = K := by rfl) : CallR X (.builtin "sum") (rSum K) := by subst h; exact cr_sum hc
theorem kMax (hc : X.calm = true) (h : X.K = K := by rfl) : CallR X (.builtin "max") (L2.rMax K) := by subst h; exact cr_max hc
theorem kMin (hc : X.calm = true) (h : X.K = K := by rfl) : CallR X (.builtin "min") (L2.rMin K) := by subst h; exact cr_min hc
theorem kAll (hc : X.calm = true) (h : X.K = K := by rfl) : CallR X (.builtin "all") (L2.rAll K) := by subst h; exact cr_all hc
theorem kAny (hc : X.calm = true) (h : X.K = K := by rfl) : CallR X (.builtin "any") (L2.rAny K) := by subst h; exact cr_any hc
variable {e l o : Expr} {es : List Expr} {to tl : TE} {t : TA} {tg : Expr} {pos apos : Pos} {T name id : String} {r : V → List V → Hp → VK → Prop}
theorem kPiL (hl : PE X l tl) (h : X.K = K := by rfl) : PI X tg l (iList K tl) := by subst h; exact pi_list hl
theorem kPiT (hl : PE X l tl) (h : X.K = K := by rfl) : PI X tg l (iTup K tl) := by subst h; exact pi_tup hl
end
end Cl

/-! Lay2: data in the abstract heap (Dt), repr and == of it. -/
namespace Cl
open PySem PySem.Spec
open PyProof.Rows hiding St
open L2

/-- what stands for data: tuples, lists -/
def isDt : HO → Bool
  | .tup _ => true
  | .lst _ => true
  | .dK [] => true
  | _ => false
/-- all data objects stay -/
def Kd (H H' : Hp) : Prop := ∀ a o, isDt o = true → H a = some o → H' a = some o
/-- all tuples stay -/
def Tk (H H' : Hp) : Prop := ∀ a xs, H a = some (.tup xs) → H' a = some (.tup xs)
theorem Kd.refl (H : Hp) : Kd H H := fun _ _ _ h => h
theorem Kd.trans {H H1 H2 : Hp} (a : Kd H H1) (b : Kd H1 H2) : Kd H H2 := fun x o d h => b x o d (a x o d h)
theorem Tk.refl (H : Hp) : Tk H H := fun _ _ h => h
theorem Tk.trans {H H1 H2 : Hp} (a : Tk H H1) (b : Tk H1 H2) : Tk H H2 := fun x o h => b x o (a x o h)
theorem Kd.tk {H H' : Hp} (a : Kd H H') : Tk H H' := fun x xs h => a x _ rfl h
theorem kdOf {H H' : Hp} (e : Same H H') : Kd H H' := fun a o _ h => e a o h
theorem sameNew {H : Hp} {p : Addr} {o : HO} (h : H p = none) : Same H (upd H p o) := fun a u e => by
  rw [upd_ne (ne_of_none e h)]
  exact e
theorem kdNew {H : Hp} {p : Addr} {o : HO} (h : H p = none) : Kd H (upd H p o) := kdOf (sameNew h)
/-- another object than data is written -/
theorem kdMut {H : Hp} {p : Addr} {o u : HO} (h : H p = some u) (hu : isDt u = false) : Kd H (upd H p o) := fun a w d e => by
  have ne : a ≠ p := fun z => by
    rw [z, h] at e
    cases e
    rw [hu] at d
    cases d
  rw [upd_ne ne]
  exact e
/-- all but p stays -/
def But (p : Addr) (H H' : Hp) : Prop := ∀ b o, H b = some o → b ≠ p → H' b = some o
theorem But.kd {p : Addr} {H H' : Hp} {u : HO} (e : But p H H') (h : H p = some u) (hu : isDt u = false) : Kd H H' := fun a w d q =>
  e a w q fun z => by
    rw [z, h] at q
    cases q
    rw [hu] at d
    cases d
theorem But.refl (p : Addr) (H : Hp) : But p H H := fun _ _ h _ => h
theorem But.trans {p : Addr} {H H1 H2 : Hp} (a : But p H H1) (b : But p H1 H2) : But p H H2 := fun x o h n => b x o (a x o h n) n
theorem But.of {p : Addr} {H H' : Hp} (e : Same H H') : But p H H' := fun b o h _ => e b o h
theorem But.put {p : Addr} {H : Hp} {o : HO} : But p H (upd H p o) := fun b u h n => by
  rw [upd_ne n]
  exact h

mutual
/-- the value v is the datum d -/
inductive Dt (H : Hp) : V → PyData → Prop
  | non : Dt H .non .none
  | bl (b : Bool) : Dt H (.bl b) (.bool b)
  | int (i : Int) : Dt H (.int i) (.int i)
  | str (x : Str) : Dt H (.str x) (.str x)
  | tup {a : Addr} {xs : List V} {ds : List PyData} : H a = some (.tup xs) → DtAll H xs ds → Dt H (.ref a) (.tuple ds)
  | lst {a : Addr} {xs : List V} {ds : List PyData} : H a = some (.lst xs) → DtAll H xs ds → Dt H (.ref a) (.list ds)
  | edc {a : Addr} : H a = some (.dK []) → Dt H (.ref a) (.dict [])
inductive DtAll (H : Hp) : List V → List PyData → Prop
  | nil : DtAll H [] []
  | cons {v : V} {vs : List V} {d : PyData} {ds : List PyData} : Dt H v d → DtAll H vs ds → DtAll H (v :: vs) (d :: ds)
end
mutual
theorem Dt.mono {H H' : Hp} (k : Kd H H') : ∀ {d : PyData} {v : V}, Dt H v d → Dt H' v d
  | .none, _, h => by cases h; exact .non
  | .bool b, _, h => by cases h; exact .bl b
  | .int i, _, h => by cases h; exact .int i
  | .str x, _, h => by cases h; exact .str x
  | .tuple ds, _, h => by cases h with | tup e a => exact .tup (k _ _ rfl e) (DtAll.mono k a)
  | .list ds, _, h => by cases h with | lst e a => exact .lst (k _ _ rfl e) (DtAll.mono k a)
  | .dict _, _, h => by cases h with | edc e => exact .edc (k _ _ rfl e)
theorem DtAll.mono {H H' : Hp} (k : Kd H H') : ∀ {ds : List PyData} {vs : List V}, DtAll H vs ds → DtAll H' vs ds
  | [], _, h => by cases h; exact .nil
  | d :: ds, _, h => by cases h with | cons a b => exact .cons (Dt.mono k a) (DtAll.mono k b)
end
theorem DtAll.length {H : Hp} : ∀ {ds : List PyData} {vs : List V}, DtAll H vs ds → vs.length = ds.length
  | [], _, h => by cases h; rfl
  | d :: ds, _, h => by cases h with | cons a b => rw [List.length_cons, List.length_cons, b.length]
theorem DtAll.at {H : Hp} : ∀ {ds : List PyData} {vs : List V} {i : Nat} {v : V}, DtAll H vs ds → vs[i]? = some v → ∃ d, ds[i]? = some d ∧ Dt H v d
  | [], _, i, v, h, e => by cases h; simp at e
  | d :: ds, _, 0, v, h, e => by
    cases h with
    | cons a b =>
      simp at e
      subst e
      exact ⟨d, rfl, a⟩
  | d :: ds, _, i + 1, v, h, e => by
    cases h with
    | cons a b =>
      obtain ⟨d', e', h'⟩ := b.at (i := i) (v := v) (by simpa using e)
      exact ⟨d', by simpa using e', h'⟩
theorem DtAll.atD {H : Hp} : ∀ {ds : List PyData} {vs : List V} {i : Nat} {d : PyData}, DtAll H vs ds → ds[i]? = some d → ∃ v, vs[i]? = some v ∧ Dt H v d
  | [], _, i, v, h, e => by simp at e
  | d :: ds, _, 0, v, h, e => by
    cases h with
    | cons a b =>
      simp at e
      subst e
      exact ⟨_, rfl, a⟩
  | d :: ds, _, i + 1, v, h, e => by
    cases h with
    | cons a b =>
      obtain ⟨d', e', h'⟩ := b.atD (i := i) (d := v) (by simpa using e)
      exact ⟨d', by simpa using e', h'⟩
theorem DtAll.append {H : Hp} : ∀ {ds es : List PyData} {vs us : List V}, DtAll H vs ds → DtAll H us es → DtAll H (vs ++ us) (ds ++ es)
  | [], _, _, _, h, g => by cases h; exact g
  | d :: ds, _, _, _, h, g => by cases h with | cons a b => exact .cons a (b.append g)
theorem DtAll.drop {H : Hp} : ∀ {ds : List PyData} {vs : List V} (n : Nat), DtAll H vs ds → DtAll H (vs.drop n) (ds.drop n)
  | _, _, 0, h => h
  | [], _, n + 1, h => by cases h; exact .nil
  | d :: ds, _, n + 1, h => by cases h with | cons a b => exact b.drop n
theorem DtAll.take {H : Hp} : ∀ {ds : List PyData} {vs : List V} (n : Nat), DtAll H vs ds → DtAll H (vs.take n) (ds.take n)
  | _, _, 0, h => .nil
  | [], _, n + 1, h => by cases h; exact .nil
  | d :: ds, _, n + 1, h => by cases h with | cons a b => exact .cons a (b.take n)
theorem DtAll.cut {H : Hp} {ds : List PyData} {vs : List V} (h : DtAll H vs ds) (lo hi : Option Int) :
    DtAll H (cutV vs lo hi) ((ds.drop (HT.sIx ds.length 0 lo)).take (HT.sIx ds.length ds.length hi - HT.sIx ds.length 0 lo)) := by
  unfold cutV
  rw [h.length]
  exact (h.drop _).take _
theorem DtAll.ints {H : Hp} : ∀ ns : List Int, DtAll H (ns.map V.int) (ns.map PyData.int)
  | [] => .nil
  | n :: ns => .cons (.int n) (DtAll.ints ns)
theorem DtAll.intsV {H : Hp} : ∀ {ns : List Int} {vs : List V}, DtAll H vs (ns.map PyData.int) → vs = ns.map V.int
  | [], _, h => by cases h; rfl
  | n :: ns, _, h => by
    cases h with
    | cons a b =>
      cases a
      rw [b.intsV]
      rfl

section
variable {X : Cx} {pins : List (Addr × Obj)} {σ : St} {H : Hp} {s : Shared}
mutual
theorem Dt.reads (I : Inv X pins σ H s) : ∀ (d : PyData) (v : V) (u : Value), Dt H v d → RelV v u → ∃ as, Reads s.heap u d as
  | .none, _, _, h, r => by
    cases h; cases r
    exact ⟨_, Reads.none⟩
  | .bool b, _, _, h, r => by
    cases h; cases r
    exact ⟨_, Reads.bool b⟩
  | .int i, _, _, h, r => by
    cases h
    obtain ⟨t, rfl⟩ := r
    exact ⟨_, Reads.int i t⟩
  | .str x, _, _, h, r => by
    cases h
    obtain ⟨t, rfl⟩ := r
    exact ⟨_, Reads.str x t⟩
  | .list ds, _, _, h, r => by
    cases h with
    | lst e ha =>
      cases r
      obtain ⟨its, rv, ⟨o, n, ho, hc, _, hd⟩, _⟩ := I.list (SqL.of (K := X.K) e)
      obtain ⟨as, q⟩ := DtAll.reads I ds _ its ha rv
      exact ⟨_, Reads.list ho hc hd q⟩
  | .tuple ds, _, _, h, r => by
    cases h with
    | tup e ha =>
      cases r
      obtain ⟨its, rv, ⟨o, ho, hc, n, hd⟩, _⟩ := I.tuple (SqT.of (K := X.K) e)
      obtain ⟨as, q⟩ := DtAll.reads I ds _ its ha rv
      exact ⟨_, Reads.tuple ho hc hd q⟩
  | .dict _, _, _, h, r => by
    cases h with
    | edc e =>
      cases r
      obtain ⟨_, _, vs, rel, o, es, ep, ho, hx, hd, _, he⟩ := dk_of I.hok e
      cases rel
      have z : es = #[] := by
        have q := he.1
        obtain ⟨l⟩ := es
        cases l with
        | nil => rfl
        | cons e l => cases q
      subst z
      exact ⟨_, Reads.dict ho hx.1 hd .nil .nil⟩
theorem DtAll.reads (I : Inv X pins σ H s) : ∀ (ds : List PyData) (vs : List V) (us : List Value), DtAll H vs ds → Vals vs us → ∃ as, ReadsAll s.heap us ds as
  | [], _, _, h, r => by
    cases h; cases r
    exact ⟨_, ReadsAll.nil⟩
  | d :: ds, _, _, h, r => by
    cases h with
    | cons a b =>
      cases r with
      | cons r1 r2 =>
        obtain ⟨as, q1⟩ := Dt.reads I d _ _ a r1
        obtain ⟨bs, q2⟩ := DtAll.reads I ds _ _ b r2
        exact ⟨_, ReadsAll.cons q1 q2⟩
end
end

/-- data that may be told by repr: no dict, ints of at most 200 signs, not too much of it -/
structure Tells (d : PyData) : Prop where
  sh : d.showable = true
  nd : d.hasDict = false ∨ d = .dict []
  lv : d.leavesShort 200 = true
  wt : d.weight ≤ 80000
  dp : d.depth ≤ 40
theorem Tells.fits {d : PyData} (t : Tells d) : d.shown.length ≤ sizeLine := by
  have h := PyData.shown_le 200 (by decide) d t.lv
  have w := t.wt
  have e : sizeLine = 16777216 := sizeLine_eq
  rw [e]
  omega
section
variable {X : Cx}
def rRepr : List V → Hp → VK → Prop := fun xs H Q => ∃ v d, xs = [v] ∧ Dt H v d ∧ Tells d ∧ Q (.str d.shown) H
theorem call_repr (hgd : X.A.guards = some []) (hu : X.A.units + 64 < cLine) : CallR X (.builtin "repr") rRepr := by
  intro pins s σ H xs us Q I r h
  obtain ⟨v, d, rfl, hd, t, q⟩ := h
  obtain ⟨u, rfl, ru⟩ := vals1 r
  cases hd with
  | non =>
    cases ru
    exact PySem.P.repr_of_none ⟨.str _, H, I.tok _, ⟨_, rfl⟩, q⟩
  | bl b =>
    cases ru
    exact PySem.P.repr_of_bool ⟨.str _, H, I.tok _, ⟨_, rfl⟩, q⟩
  | int i =>
    obtain ⟨tk, rfl⟩ := ru
    have z : i.natAbs.log2 < 1920 := by
      have := t.sh
      simpa [PyData.showable] using this
    exact PySem.P.repr_of_int z ⟨.str _, H, I.tok _, ⟨_, rfl⟩, q⟩
  | str x =>
    obtain ⟨tk, rfl⟩ := ru
    have z : (reprText x).length ≤ sizeLine := t.fits
    exact PySem.P.repr_of_str ⟨.str _, H, I.tok _, ⟨_, rfl⟩, q⟩ z
  | tup e ha =>
    rename_i a ys ds
    obtain ⟨as, hr⟩ := Dt.reads I _ _ _ (Dt.tup e ha) ru
    cases ru
    have dp := t.dp
    exact repr_of_reads' hr t.sh (PyData.noDict_hsm (t.nd.elim id fun z => by cases z)) hgd (by omega) (fun _ _ q => q)
      (fun h' u tk k => ⟨.str _, H, I.kept (t' := tk) k, ⟨u, rfl⟩, q⟩) t.fits
  | edc e =>
    rename_i a
    obtain ⟨_, lo, vs, rel, o, es, ep, ho, hx, hdt, _, he⟩ := dk_of I.hok e
    cases rel
    have z : es = #[] := by
      have q := he.1
      obtain ⟨l⟩ := es
      cases l with
      | nil => rfl
      | cons e l => cases q
    subst z
    cases ru
    have r0 : Reads s.heap (.ref a) (.dict []) [a] := Reads.dict (as := []) (bs := []) ho hx.1 hdt .nil .nil
    refine repr_of_reads' r0 t.sh (fun _ z => ?_) hgd (by have := t.dp; omega) (fun _ _ q => q)
      (fun h' u tk k => ⟨.str _, H, I.kept (t' := tk) k, ⟨u, rfl⟩, q⟩) t.fits
    rw [List.mem_singleton.mp z] at lo
    simp at lo
  | lst e ha =>
    rename_i a ys ds
    obtain ⟨as, hr⟩ := Dt.reads I _ _ _ (Dt.lst e ha) ru
    cases ru
    have dp := t.dp
    exact repr_of_reads' hr t.sh (PyData.noDict_hsm (t.nd.elim id fun z => by cases z)) hgd (by omega) (fun _ _ q => q)
      (fun h' u tk k => ⟨.str _, H, I.kept (t' := tk) k, ⟨u, rfl⟩, q⟩) t.fits
def rEqT (neg : Bool) : R2 := fun x y H Q => ∃ d e, Dt H x d ∧ Dt H y e ∧ SeqAt.shaped d = true ∧ SeqAt.shaped e = true ∧
  Q (.bl (if neg then !PyData.eqv d e else PyData.eqv d e)) H
theorem op_eqT (hu : X.A.units + 64 < cLine) : OpR X (compareOp .Eq) (rEqT false) := by
  intro pins s σ H x y v u Q I rx ry h
  obtain ⟨d, e, hd, he, sd, se, q⟩ := h
  obtain ⟨as, r1⟩ := Dt.reads I d x v hd rx
  obtain ⟨bs, r2⟩ := Dt.reads I e y u he ry
  exact SeqAt.compareEq_shaped r1 r2 sd se hu ⟨.bl _, H, I, rfl, q⟩
theorem op_neT (hu : X.A.units + 64 < cLine) : OpR X (compareOp .NotEq) (rEqT true) := by
  intro pins s σ H x y v u Q I rx ry h
  obtain ⟨d, e, hd, he, sd, se, q⟩ := h
  obtain ⟨as, r1⟩ := Dt.reads I d x v hd rx
  obtain ⟨bs, r2⟩ := Dt.reads I e y u he ry
  exact SeqAt.compareNe_shaped r1 r2 sd se hu ⟨.bl _, H, I, rfl, q⟩
end
end Cl

/-! Lay3: the pen, the source of all draws. -/
namespace Cl
open PySem PySem.Spec
open PyProof.Rows hiding St
open L2

theorem bt_len : bootBuiltins "len" = some (.builtin "len") := by decide +kernel
theorem bt_repr : bootBuiltins "repr" = some (.builtin "repr") := by decide +kernel
theorem bt_isinstance : bootBuiltins "isinstance" = some (.builtin "isinstance") := by decide +kernel
theorem bt_int : bootBuiltins "int" = some (.type "int") := by decide +kernel
theorem bt_list : bootBuiltins "list" = some (.type "list") := by decide +kernel
theorem bt_tuple : bootBuiltins "tuple" = some (.type "tuple") := by decide +kernel
theorem bt_dict : bootBuiltins "dict" = some (.type "dict") := by decide +kernel
theorem bt_sorted : bootBuiltins "sorted" = some (.builtin "sorted") := by decide +kernel
theorem bt_all : bootBuiltins "all" = some (.builtin "all") := by decide +kernel
theorem bt_any : bootBuiltins "any" = some (.builtin "any") := by decide +kernel
theorem bt_max : bootBuiltins "max" = some (.builtin "max") := by decide +kernel
theorem bt_min : bootBuiltins "min" = some (.builtin "min") := by decide +kernel
theorem bt_sum : bootBuiltins "sum" = some (.builtin "sum") := by decide +kernel
theorem bt_ValueError : bootBuiltins "ValueError" = some (.type "ValueError") := by decide +kernel
theorem bt_str : bootBuiltins "str" = some (.type "str") := by decide +kernel
theorem bt_bool : bootBuiltins "bool" = some (.type "bool") := by decide +kernel
theorem bt_abs : bootBuiltins "abs" = some (.builtin "abs") := by decide +kernel
theorem bt_set : bootBuiltins "set" = some (.type "set") := by decide +kernel

/-- the pen's pairs -/
def penK (c : Addr) (i dg ct fo : Int) : List (Key × V) :=
  [(Sum.inr "cells", .ref c), (Sum.inr "at", .int i), (Sum.inr "digits", .int dg), (Sum.inr "count", .int ct), (Sum.inr "fold", .int fo)]
section
variable {c : Addr} {i dg ct fo y : Int}
theorem pen_merge : mergeK [] (penK c i dg ct fo) = penK c i dg ct fo := by rfl
theorem pen_cells : valV (penK c i dg ct fo) (Sum.inr "cells") = some (.ref c) := by rfl
theorem pen_at : valV (penK c i dg ct fo) (Sum.inr "at") = some (.int i) := by rfl
theorem pen_digits : valV (penK c i dg ct fo) (Sum.inr "digits") = some (.int dg) := by rfl
theorem pen_count : valV (penK c i dg ct fo) (Sum.inr "count") = some (.int ct) := by rfl
theorem pen_fold : valV (penK c i dg ct fo) (Sum.inr "fold") = some (.int fo) := by rfl
theorem pen_put_at : putK (penK c i dg ct fo) (Sum.inr "at") (.int y) = penK c y dg ct fo := by rfl
theorem pen_put_digits : putK (penK c i dg ct fo) (Sum.inr "digits") (.int y) = penK c i y ct fo := by rfl
theorem pen_put_count : putK (penK c i dg ct fo) (Sum.inr "count") (.int y) = penK c i dg y fo := by rfl
theorem pen_put_fold : putK (penK c i dg ct fo) (Sum.inr "fold") (.int y) = penK c i dg ct y := by rfl
end
/-- at p stands a pen that has drawn at most n times, its script at c -/
def Pen (H : Hp) (p c : Addr) (n : Nat) : Prop := ∃ (i dg ct fo : Int) (ns : List Int),
  H p = some (.dK (penK c i dg ct fo)) ∧ H c = some (.lst (ns.map V.int)) ∧ 0 ≤ i ∧ i ≤ (ns.length : Int) ∧ ns.length ≤ 63 ∧
  0 ≤ dg ∧ 0 ≤ ct ∧ ct ≤ (n : Int) ∧ 0 ≤ fo ∧ fo < 4294967296
theorem Pen.le {H : Hp} {p c : Addr} {n m : Nat} (h : Pen H p c n) (l : n ≤ m) : Pen H p c m := by
  obtain ⟨i, dg, ct, fo, ns, h1, h2, h3, h4, h5, h6, h7, h8, h9⟩ := h
  exact ⟨i, dg, ct, fo, ns, h1, h2, h3, h4, h5, h6, h7, by omega, h9⟩
theorem Pen.same {H H' : Hp} {p c : Addr} {n : Nat} (h : Pen H p c n) (e : Same H H') : Pen H' p c n := by
  obtain ⟨i, dg, ct, fo, ns, h1, h2, r⟩ := h
  exact ⟨i, dg, ct, fo, ns, e _ _ h1, e _ _ h2, r⟩
theorem Pen.at {H : Hp} {p c : Addr} {n : Nat} (h : Pen H p c n) : ∃ u, H p = some u ∧ isDt u = false := by
  obtain ⟨i, dg, ct, fo, ns, h1, _⟩ := h
  exact ⟨_, h1, rfl⟩
theorem Pen.kd {H H' : Hp} {p c : Addr} {n : Nat} (h : Pen H p c n) (e : But p H H') : Kd H H' := by
  obtain ⟨u, h1, h2⟩ := h.at
  exact e.kd h1 h2
/-- D is neither the pen nor its script -/
def Off (D p c : Addr) : Prop := D ≠ p ∧ D ≠ c
theorem Pen.off {H : Hp} {p c D : Addr} {n : Nat} (h : Pen H p c n) (e : H D = none) : Off D p c := by
  obtain ⟨i, dg, ct, fo, ns, h1, h2, r⟩ := h
  exact ⟨(fun z => by rw [z, h1] at e; cases e), (fun z => by rw [z, h2] at e; cases e)⟩
theorem Pen.upd {H : Hp} {p c D : Addr} {n : Nat} {o : HO} (h : Pen H p c n) (e : Off D p c) : Pen (upd H D o) p c n := by
  obtain ⟨i, dg, ct, fo, ns, h1, h2, r⟩ := h
  exact ⟨i, dg, ct, fo, ns, (by rw [upd_ne (Ne.symm e.1)]; exact h1), (by rw [upd_ne (Ne.symm e.2)]; exact h2), r⟩
theorem Pen.free {H H' : Hp} {p c r : Addr} {n : Nat} (h : Pen H' p c n) (b : But p H H') (hr : H' r = none) : H r = none := by
  cases e : H r with
  | none => rfl
  | some o =>
    obtain ⟨u, hu, _⟩ := h.at
    by_cases z : r = p
    · rw [z, hu] at hr
      cases hr
    · rw [b r o e z] at hr
      cases hr
/-- the number of draws that all laws stay below -/
def penMax : Nat := 1000000000000
/-- the promise of a def that makes the pen -/
def spPen (K : PySem.W.Frag) : Sp := fun vs H Q _ => ∃ (a : Addr) (ns : List Int), vs = [.ref a] ∧ SqL K H a (ns.map V.int) ∧ ns.length ≤ 63 ∧
  ∀ (p c : Addr) (H' : Hp), Same H H' → H p = none → Pen H' p c 0 → Q (.ref p) H'
/-- .. that draws a number -/
def spDraw : Sp := fun vs H Q _ => ∃ (p c : Addr) (n : Nat) (m : Int), vs = [.ref p, .int m] ∧ Pen H p c n ∧ n < penMax ∧ 0 < m ∧ m < 1000000000 ∧
  ∀ (r : Int) (H' : Hp), 0 ≤ r → r < m → But p H H' → Pen H' p c (n + 1) → Q (.int r) H'
/-- .. that draws an item of a list or a tuple -/
def spPick : Sp := fun vs H Q _ => ∃ (p c l : Addr) (n : Nat) (xs : List V), vs = [.ref p, .ref l] ∧ Pen H p c n ∧ n < penMax ∧ (H l = some (.lst xs) ∨ H l = some (.tup xs)) ∧
  0 < xs.length ∧ xs.length ≤ 1000000 ∧ ∀ (x : V) (H' : Hp), x ∈ xs → But p H H' → Pen H' p c (n + 1) → Q x H'
end Cl

/-! Lay4: exceptions of own classes over ValueError as values: made, read, asked by isinstance. -/
namespace Cl
open PySem PySem.Spec
open PyProof.Rows hiding St
open L2

/-- what the written part says of such a class -/
structure EC (K : PySem.W.Frag) (C : Addr) : Prop where
  oe : OexC K C
  cl : (PySem.W.clsIn K C).isSome = true
  hd : PySem.W.hasDictIn K C = true
  ga : PySem.W.findIn K (.ref C) "__getattribute__" = some (some (.builtin "BaseException.__getattribute__"))
  gg : PySem.W.findIn K (.ref C) "__getattr__" = some none
  ha : PySem.W.findIn K (.ref C) "__class__" = some (some (.builtin "object.__class__"))
  sg : PySem.W.specialIn K (.builtin "object.__class__") "__get__" = some (some (.builtin "getset_descriptor.__get__"))
  tk : PySem.W.takesIn K (.builtin "object.__class__") = some true
  hm : PySem.W.mroIn K C (.type "object") = some true
def ecObj (K : PySem.W.Frag) (C : Addr) : Bool := match K.lookup C with
  | some ⟨.type "type", _, .cls cd, sl⟩ => (match cd.mro, sl.toList with
    | .ref C' :: bm, [_, _, _, _, some (.builtin n), _] => C' == C && (n == "ValueError.__new__" && (!cd.hasDel && (cd.hasDict && PySem.HandSPX.refsVE bm)))
    | _, _ => false)
  | _ => false
def ecB (K : PySem.W.Frag) (C : Addr) : Bool :=
  ecObj K C && (decide (PySem.W.findIn K (.ref C) "__setattr__" = some (some (.builtin "object.__setattr__"))) &&
  (decide (PySem.W.subIn K (.ref C) (.type "BaseException") = some true) && (decide (PySem.W.typeIn K (.ref C) = some (.type "type")) &&
  (PySem.W.keepIn K (.ref C) && ((PySem.W.clsIn K C).isSome && (PySem.W.hasDictIn K C &&
  (decide (PySem.W.findIn K (.ref C) "__getattribute__" = some (some (.builtin "BaseException.__getattribute__"))) &&
  (decide (PySem.W.findIn K (.ref C) "__getattr__" = some none) && (decide (PySem.W.findIn K (.ref C) "__class__" = some (some (.builtin "object.__class__"))) &&
  (decide (PySem.W.specialIn K (.builtin "object.__class__") "__get__" = some (some (.builtin "getset_descriptor.__get__"))) &&
  (decide (PySem.W.takesIn K (.builtin "object.__class__") = some true) && decide (PySem.W.mroIn K C (.type "object") = some true))))))))))))
theorem ecObj_ok {K : PySem.W.Frag} {C : Addr} (e : ecObj K C = true) :
    ∃ nm q N bs bm sn sub ab col dd k0 k1 k2 k3 k5, K.lookup C = some (excClassObj nm q C N bs bm true sn sub ab col dd k0 k1 k2 k3 k5 "ValueError.__new__") ∧ PySem.HandSPX.refsVE bm = true := by
  unfold ecObj at e
  split at e
  · rename_i dd cd sl ho
    split at e
    · rename_i C' bm k0 k1 k2 k3 n k5 hm hs
      simp only [Bool.and_eq_true, beq_iff_eq, Bool.not_eq_true'] at e
      obtain ⟨c1, c2, c3, c4, c5⟩ := e
      subst c1 c2
      obtain ⟨nm, bs, mro, ns, qn, hd, sn, sub, ab, col, del⟩ := cd
      obtain ⟨sl⟩ := sl
      dsimp only at hm hs c3 c4
      subst hm hs c3 c4
      exact ⟨nm, qn, ns, bs, bm, sn, sub, ab, col, dd, k0, k1, k2, k3, k5, ho, c5⟩
    · cases e
  · cases e
theorem ecB_ok {K : PySem.W.Frag} {C : Addr} (e : ecB K C = true) : EC K C := by
  unfold ecB at e
  simp only [Bool.and_eq_true, decide_eq_true_eq] at e
  obtain ⟨e1, e2, e3, e4, e5, e6, e7, e8, e9, e10, e11, e12, e13⟩ := e
  exact ⟨⟨ecObj_ok e1, e2, e3, e4, e5⟩, e6, e7, e8, e9, e10, e11, e12, e13⟩

/-- at a an exception of the class at C, its fields fs (the last one first) -/
def ExAt (H : Hp) (a C : Addr) (fs : List (Str × V)) : Prop := ∃ d, d ≠ a ∧ H a = some (exo a C (some d)) ∧ H d = some (exd d fs)
/-- the promise of an __init__ that stores its arguments as fields -/
def spI (K : PySem.W.Frag) (names : List Str) : Sp := fun vs H Q _ => ∃ (a C : Addr) (ws : List V), vs = .ref a :: ws ∧ ws.length = names.length ∧ EC K C ∧
  (∀ f ∈ names, PySem.W.findIn K (.ref C) f = some none) ∧ H a = some (exo a C none) ∧
  ∀ (d : Addr) (H' : Hp), H d = none → d ≠ a → H' a = some (exo a C (some d)) → H' d = some (exd d (names.zip ws).reverse) → (∀ b, b ≠ a → b ≠ d → H' b = H b) → Q .non H'

/-- a class with such an __init__ -/
structure EMk (P : Program) (w : World) (K : PySem.W.Frag) (mg : Str → Option Value) (base : Heap) (x : Str) (k : Nat) (names ps : List Str) (C : Addr) : Prop where
  nm : mg x = some (.ref C)
  ec : EC K C
  no : ∀ f ∈ names, PySem.W.findIn K (.ref C) f = some none
  len : ps.length = names.length + 1
  ini : ∃ (fI : Addr) (fd : FuncData), PySem.W.findIn K (.ref C) "__init__" = some (some (.ref fI)) ∧ PySem.W.typeIn K (.ref fI) = some (.type "function") ∧
    FnG P w K mg base k fI fd ps (spI K names) ∧ Binds K fd ps []
/-- C(e, ..): all that stood stands, at a new place the exception -/
def tMkE (C : Addr) (names : List Str) (ta : TA) : TE := fun σ H Q => ta σ H fun vs H1 => vs.length = names.length ∧ vs.length ≤ 1000 ∧
  ∀ (a : Addr) (H2 : Hp), H1 a = none → Same H1 H2 → ExAt H2 a C (names.zip vs).reverse → Q (.ref a) H2
theorem under_guards {A : Around} {C : Addr} {us : List Value} {kw : List (Str × Value)} : (A.under (.builtin "type.__call__" ⟨.ref C :: us, kw⟩)).guards = A.guards := by
  have e : (Code.builtin "type.__call__" ⟨.ref C :: us, kw⟩).guards = [] := by
    unfold Code.guards Code.isGuard
    rw [if_neg (show ¬ (guardIds.contains "type.__call__" = true) by decide +kernel)]
  show pushGuards (Code.builtin "type.__call__" ⟨.ref C :: us, kw⟩).guards A.guards = A.guards
  rw [e]
  rfl
/-- a new object, new by the heap's own look -/
theorem laidN {X : Cx} {pins : List (Addr × Obj)} {σ : St} {H : Hp} {s : Shared} {h' : Heap} {a : Addr} {o : HO} {t' : Nat} (I : Inv X pins σ H s) (k : ∀ b u, s.heap.get? b = some u → h'.get? b = some u)
    (hp : s.heap.get? a = none) (hn : H a = none) (new : ObjOk X.prog X.w (upd H a o) h' a o) : Inv X pins σ (upd H a o) { s with heap := h', toks := t' } := I.laidN k hp hn new
section
variable {X : Cx} {k : Nat} {names ps : List Str} {C : Addr} {x : Str} {e : Expr} {es : List Expr} {ta : TA} {p pos : Pos}
theorem pe_mkE (M : EMk X.prog X.w X.K X.mg X.base x k names ps C) (hr : Room (k + 1) X.A) (hgd : X.A.guards = some []) (hg : Gl X x) (ha : PA X (e :: es) ta)
    (hdb : (x == ("__debug__" : Str)) = false := by decide) (he : starEach (e :: es) X.env = (false, eval e X.env) :: starEach es X.env := by rfl) (hpl : (backTo pos (starEach es X.env)).any (·.1) = false := by rfl) :
    PE X (.Call (.Name x p) (e :: es) [] pos) (tMkE C names ta) := by
  constructor
  intro pins s σ H Q I h
  obtain ⟨fI, fd, iC, tI, F, hb⟩ := M.ini
  obtain ⟨nm, q, N, bs, bm, sn, sub, ab, col, dd, k0, k1, k2, k3, k5, hC, hbm⟩ := M.ec.oe.cls
  refine wpAny_Call_Name_kw (ld_glob I hg M.nm ?_ hdb)
  refine PySem.W.callWith_K (h₀ := X.base) I.ok.mod.kin M.ec.oe.kC (thn (ha.run pos pins s σ H _ I h) ?_) he hpl
  rintro us s1 ⟨vs, H1, I1, r1, ln, lz, q1⟩
  refine ⟨I1.kIn, ?_⟩
  show wpAny _ _ (call (.ref C) us) _ _ _
  obtain ⟨hp, g, dr, tk, os⟩ := s1
  have hn : H1 (hp.objs.size + 1) = none := I1.hok.fresh (Nat.le_succ _)
  have hget : ((hp.push (PySem.W.kdv_tup us)).push (PySem.HandSPX.excO C hp.objs.size)).get? (hp.objs.size + 1) = some (PySem.HandSPX.excO C hp.objs.size) := by heap_get
  have I2 : Inv X pins σ (upd H1 (hp.objs.size + 1) (exo (hp.objs.size + 1) C none)) ⟨(hp.push (PySem.W.kdv_tup us)).push (PySem.HandSPX.excO C hp.objs.size), g, dr, tk, os⟩ :=
    I1.laid (t' := tk) (fun b o z => Heap.get?_push_of_some _ (Heap.get?_push_of_some _ z)) (Nat.le_succ _) (exo_ok hget)
  generalize ea : hp.objs.size + 1 = a at hn hget I2
  have r2 : Vals (V.ref a :: vs) (Value.ref a :: us) := .cons rfl r1
  have hl : (Value.ref a :: us ++ []).length = ps.length := by
    rw [List.append_nil, List.length_cons, M.len, ← Paired.length r1, ln]
  have bt := hb _ (Value.ref a :: us) I2.kIn hl
  rw [List.append_nil] at bt
  have hus : us.length ≤ sizeLine := by
    rw [← Paired.length r1, sizeLine_eq]
    omega
  have hq : spI X.K names (.ref a :: vs) (upd H1 a (exo a C none)) (fun v H2 => v = .non ∧ Q (.ref a) H2) E0 := by
    refine ⟨a, C, vs, rfl, ln, M.ec, M.no, upd_same, fun d H' hd nda h1 h2 h3 => ⟨rfl, q1 a H' hn (fun b o z => ?_) ⟨d, nda, h1, h2⟩⟩⟩
    have hd' : H1 d = none := by rw [upd_ne nda] at hd; exact hd
    rw [h3 b (ne_of_none z hn) (ne_of_none z hd'), upd_ne (ne_of_none z hn)]
    exact z
  subst ea
  refine wpAny_call (PySem.HandSPX.call_own PySem.F.excBase_ValueError (fun Y => PySem.HandSPX.refsVE_contains Y bm hbm) (I1.kIn _ _ hC)
    (PySem.W.looks_findIn I1.kIn iC) (fun self => PySem.W.bind_fn I1.kIn self tI) hus
    (codeAny_mono (F.go (hr.make C us []) (under_guards.trans hgd) (I2.env0.make C us []) bt r2 hq) fun r s' out => ?_))
  match r, out with
  | .error er, out => exact passNo σ pins _ _ er s' I2 out
  | .ok (.ret u), out =>
    obtain ⟨v, H', I3, rv, ev, q3⟩ := I2.after out
    subst ev
    exact ⟨rv, V.ref (hp.objs.size + 1), H', I3, rfl, q3⟩
  | .ok .next, out => exact False.elim out
  | .ok .brk, out => exact False.elim out
  | .ok .cont, out => exact False.elim out
/-- C(), C without an own __init__ -/
theorem pe_mkE0 {C : Addr} {x : Str} {p pos : Pos} (hm : X.mg x = some (.ref C)) (ec : EC X.K C) (q : PySem.W.excIn X.K C He.veBase "ValueError.__new__" = true) (hg : Gl X x) (hdb : (x == ("__debug__" : Str)) = false := by decide) :
    PE X (.Call (.Name x p) [] [] pos) (fun _ H Q => ∀ (a : Addr), H a = none → Q (.ref a) (upd H a (exo a C none))) := by
  constructor
  intro pins s σ H Q I h
  refine wpAny_Call_Name_kw (ld_glob I hg hm ?_ hdb)
  refine PySem.W.callWith_K0 I.kIn ec.oe.kC ?_
  show wpAny _ _ (call (.ref C) []) _ _ _
  obtain ⟨bm, N, nm, qn, bs, hdct, sn, sub, ab, col, dd, k0, k1, k2, k3, k5, mN, hC, hN, hni, T⟩ := exc_obj I.kIn q
  refine wpAny_call_exc_subT PySem.F.excBase_ValueError T hC hN hni (fun h' a hm => ?_) (Nat.zero_le _)
  obtain ⟨t, ht, _, _⟩ := hm.there
  have hn : H a = none := I.hok.gone hm.new
  exact ⟨.ref a, upd H a (exo a C none), Cl.laidN I hm.keeps hm.new hn (exo_ok ht), rfl, h a hn⟩
/-- e.f of such an exception -/
def tXfld (K : PySem.W.Frag) (f : Str) (te : TE) : TE := fun σ H Q => te σ H fun x H1 => ∃ (a C : Addr) (fs : List (Str × V)) (v : V), x = .ref a ∧ ExAt H1 a C fs ∧ EC K C ∧ PySem.W.findIn K (.ref C) f = some none ∧ fs.lookup f = some v ∧ Q v H1
theorem pe_xfld {e : Expr} {te : TE} {pos : Pos} {n : Str} (he : PE X e te) (hb : attributeBase e n X.env (eval e X.env) = eval e X.env := by rfl) : PE X (.Attribute e n pos) (tXfld X.K n te) := by
  constructor
  intro pins s σ H Q I h
  refine attr_of hb (thn (he.run pins s σ H _ I h) ?_)
  rintro u s1 ⟨x, H1, I1, rx, a, C, fs, v, rfl, ⟨d, nda, ha, hd⟩, ec, hno, hl, q⟩
  obtain rfl : u = Value.ref a := rx
  obtain ⟨t1, ho⟩ := exo_at I1.hok ha
  obtain ⟨mA, hns, hr⟩ := exd_at I1.hok hd
  obtain ⟨od, hod, look⟩ := lookIn_ns hns
  obtain ⟨w, hw, rw'⟩ := RelO.some_of (v := v) (o := mA n) (by rw [← hl]; exact hr n)
  have J : PySem.W.InstAt s1.heap a { cls := .ref C, dict := some d, data := .fields #[.ref t1, .none, .none, .none, .bool false, .none] } C (some od) := ⟨ho, rfl, rfl, hod⟩
  exact HandSPX.exc_get I1.kIn J ec.ga ec.gg ec.oe.exC (PySem.W.findObj_own ec.hd hno rfl (by rw [look, hw])) (handed_of rw') ⟨v, H1, I1.tok _, rw', q⟩
/-- isinstance(e, c) of such an exception -/
def rIsX (K : PySem.W.Frag) : List V → Hp → VK → Prop := fun xs H Q => ∃ (a C : Addr) (d : Option Addr) (c : V) (cv : Value) (b : Bool), xs = [.ref a, c] ∧ H a = some (exo a C d) ∧ (∀ d', d = some d' → ∃ fs, H d' = some (exd d' fs)) ∧ EC K C ∧
  (∀ u, RelV c u → u = cv) ∧ PySem.W.kitOne K (.ref C) cv = some b ∧ Q (.bl b) H
theorem call_isX : CallR X (.builtin "isinstance") (rIsX X.K) := by
  intro pins s σ H xs us Q I r h
  obtain ⟨a, C, d, c, cv, b, rfl, ha, hdx, ec, hcv, e, q⟩ := h
  obtain ⟨u1, u2, rfl, ru, rt⟩ := vals2 r
  cases ru
  have ec2 := hcv _ rt
  subst ec2
  obtain ⟨t1, ho⟩ := exo_at I.hok ha
  have J : ∃ od, PySem.W.InstAt s.heap a { cls := .ref C, dict := d, data := .fields #[.ref t1, .none, .none, .none, .bool false, .none] } C od := by
    cases d with
    | none => exact ⟨none, ho, rfl, rfl, trivial⟩
    | some d' =>
      obtain ⟨fs, hd⟩ := hdx d' rfl
      obtain ⟨mA, ⟨od, es, ep, hod, _⟩, hr⟩ := exd_at I.hok hd
      exact ⟨some od, ho, rfl, rfl, hod⟩
  obtain ⟨od, J⟩ := J
  exact PySem.W.kia_one (PySem.W.kitx_exc ec.cl ec.ga ec.gg ec.oe.exC ec.ha ec.sg ec.tk ec.hm) I.kIn J e (fun z => nomatch z)
    fun tk => ⟨.bl b, H, I.kept (t' := tk) fun _ _ z => z, rfl, q⟩
end

/-! ### an __init__ of one, two, three fields -/
section
variable {K : PySem.W.Frag} {f1 f2 f3 : Str}
theorem exo_ne_exd {a C d : Addr} {o : Option Addr} {fs : List (Str × V)} {H : Hp} (h1 : H a = some (exo a C o)) (h2 : H d = none) : d ≠ a := fun z => by rw [z, h1] at h2; cases h2
theorem ini1 {vs : List V} {H : Hp} {Q : VK} {E : XK} (h : spI K [f1] vs H Q E) :
    tOst K f1 (tVar 0) (tVar 1) { nx := fun _ H' => Q .non H', rt := Q } (start ["self", f1] vs) H := by
  obtain ⟨a, C, ws, rfl, hl, ec, no, ha, k⟩ := h
  match ws, hl with
  | [v1], _ =>
    refine ⟨_, rfl, _, rfl, a, C, rfl, ec.oe, no f1 (by simp), Or.inl ⟨ha, fun d hd nda => ?_⟩⟩
    refine k d _ hd nda upd_same (by rw [upd_ne nda, upd_same]; rfl) fun b h1 h2 => by rw [upd_ne h1, upd_ne h2]
theorem ini2 {vs : List V} {H : Hp} {Q : VK} {E : XK} (h : spI K [f1, f2] vs H Q E) :
    tSeq (tOst K f1 (tVar 0) (tVar 1)) (tOst K f2 (tVar 0) (tVar 2)) { nx := fun _ H' => Q .non H', rt := Q } (start ["self", f1, f2] vs) H := by
  obtain ⟨a, C, ws, rfl, hl, ec, no, ha, k⟩ := h
  match ws, hl with
  | [v1, v2], _ =>
    refine ⟨_, rfl, _, rfl, a, C, rfl, ec.oe, no f1 (by simp), Or.inl ⟨ha, fun d hd nda => ?_⟩⟩
    refine ⟨_, rfl, _, rfl, a, C, rfl, ec.oe, no f2 (by simp), Or.inr ⟨d, _, upd_same, by rw [upd_ne nda]; exact upd_same, (by show 1 ≤ 900; decide), ?_⟩⟩
    refine k d _ hd nda (by rw [upd_ne (Ne.symm nda), upd_same]) upd_same fun b h1 h2 => by rw [upd_ne h2, upd_ne h1, upd_ne h2]
theorem ini3 {vs : List V} {H : Hp} {Q : VK} {E : XK} (h : spI K [f1, f2, f3] vs H Q E) :
    tSeq (tOst K f1 (tVar 0) (tVar 1)) (tSeq (tOst K f2 (tVar 0) (tVar 2)) (tOst K f3 (tVar 0) (tVar 3))) { nx := fun _ H' => Q .non H', rt := Q } (start ["self", f1, f2, f3] vs) H := by
  obtain ⟨a, C, ws, rfl, hl, ec, no, ha, k⟩ := h
  match ws, hl with
  | [v1, v2, v3], _ =>
    refine ⟨_, rfl, _, rfl, a, C, rfl, ec.oe, no f1 (by simp), Or.inl ⟨ha, fun d hd nda => ?_⟩⟩
    refine ⟨_, rfl, _, rfl, a, C, rfl, ec.oe, no f2 (by simp), Or.inr ⟨d, _, upd_same, by rw [upd_ne nda]; exact upd_same, (by show 1 ≤ 900; decide), ?_⟩⟩
    refine ⟨_, rfl, _, rfl, a, C, rfl, ec.oe, no f3 (by simp), Or.inr ⟨d, _, by rw [upd_ne (Ne.symm nda)]; exact upd_same, upd_same, (by show 2 ≤ 900; decide), ?_⟩⟩
    refine k d _ hd nda (by rw [upd_ne (Ne.symm nda), upd_ne (Ne.symm nda), upd_same]) upd_same fun b h1 h2 => by rw [upd_ne h2, upd_ne h2, upd_ne h1, upd_ne h2]
theorem spI_len {names : List Str} {vs : List V} {H : Hp} {Q : VK} {E : XK} (h : spI K names vs H Q E) : vs.length = names.length + 1 := by
  obtain ⟨a, C, ws, rfl, hl, _⟩ := h
  rw [List.length_cons, hl]
end
end Cl

/-! Lay5: list comprehensions whose elements are data. -/
namespace Cl
open PySem PySem.Spec
open PyProof.Rows hiding St
open L2

/-- evaluates to data that satisfy P, from any larger heap -/
def Ed (te : TE) (σ : St) (H : Hp) (P : V → Hp → Prop) : Prop := ∀ H1, Same H H1 → ∀ Q : VK, (∀ v H2, Same H1 H2 → P v H2 → Q v H2) → te σ H1 Q
def Et (tt : TT) (σ : St) (H : Hp) (b : Bool) : Prop := ∀ H1, Same H H1 → ∀ Q : Bool → Hp → Prop, (∀ H2, Same H1 H2 → Q b H2) → tt σ H1 Q
abbrev isD (d : PyData) : V → Hp → Prop := fun v H => Dt H v d
theorem Dt.same {H H' : Hp} {v : V} {d : PyData} (h : Dt H v d) (e : Same H H') : Dt H' v d := h.mono (kdOf e)
theorem DtAll.same {H H' : Hp} {v : List V} {d : List PyData} (h : DtAll H v d) (e : Same H H') : DtAll H' v d := h.mono (kdOf e)
theorem et_yes {σ : St} {H : Hp} : Et tYes σ H true := fun H1 _ _ q => q H1 (Same.refl H1)
theorem ed_var {σ : St} {H : Hp} {i : Nat} {v : V} {d : PyData} (h : σ[i]? = some (some v)) (hd : Dt H v d) : Ed (tVar i) σ H (isD d) :=
  fun H1 e Q q => ⟨v, h, q v H1 (Same.refl H1) (hd.same e)⟩
theorem same_mut {H0 H : Hp} {p : Addr} {o : HO} (e : Same H0 H) (h : H0 p = none) : Same H0 (upd H p o) := fun a u ha => by
  rw [upd_ne (ne_of_none ha h)]
  exact e a u ha
theorem same_free {H H' : Hp} {p : Addr} (e : Same H H') (h : H' p = none) : H p = none := e.free h


/-! ### data without lists stay whatever list is written -/
mutual
def pu : PyData → Bool
  | .tuple ds => puAll ds
  | .list _ => false
  | .dict _ => false
  | _ => true
def puAll : List PyData → Bool
  | [] => true
  | d :: ds => pu d && puAll ds
end
mutual
theorem Dt.tk {H H' : Hp} (k : Tk H H') : ∀ {d : PyData} {v : V}, pu d = true → Dt H v d → Dt H' v d
  | .none, _, _, h => by cases h; exact .non
  | .bool b, _, _, h => by cases h; exact .bl b
  | .int i, _, _, h => by cases h; exact .int i
  | .str x, _, _, h => by cases h; exact .str x
  | .tuple ds, _, p, h => by cases h with | tup e a => exact .tup (k _ _ e) (DtAll.tk k p a)
  | .list ds, _, p, h => by cases p
  | .dict _, _, p, h => by cases p
theorem DtAll.tk {H H' : Hp} (k : Tk H H') : ∀ {ds : List PyData} {vs : List V}, puAll ds = true → DtAll H vs ds → DtAll H' vs ds
  | [], _, _, h => by cases h; exact .nil
  | d :: ds, _, p, h => by
    have p' : (pu d && puAll ds) = true := p
    obtain ⟨p1, p2⟩ := Bool.and_eq_true_iff.mp p'
    cases h with | cons a b => exact .cons (Dt.tk k p1 a) (DtAll.tk k p2 b)
end
theorem puAll_of {ds : List PyData} (h : ∀ d ∈ ds, pu d = true) : puAll ds = true := by
  induction ds with
  | nil => rfl
  | cons d ds ih =>
    show (pu d && puAll ds) = true
    rw [h d List.mem_cons_self, ih fun x hx => h x (List.mem_cons_of_mem _ hx)]
    rfl
theorem tk_lst {H : Hp} {D : Addr} {xs : List V} {o : HO} (h : H D = some (.lst xs)) : Tk H (upd H D o) := fun a ys e => by
  rw [upd_ne (fun z => by rw [z, h] at e; cases e)]
  exact e
theorem DtAll.snoc {H : Hp} {vs : List V} {v : V} {ds : List PyData} {d : PyData} (h : DtAll H vs ds) (g : Dt H v d) : DtAll H (vs ++ [v]) (ds ++ [d]) := h.append (.cons g .nil)

/-- what a comprehension has told so far stands at D -/
def Cw (H : Hp) (D : Addr) (ds : List PyData) (H' : Hp) : Prop := H D = none ∧ Same H H' ∧ puAll ds = true ∧ ∃ ys, H' D = some (.lst ys) ∧ DtAll H' ys ds
theorem puAll_snoc {ds : List PyData} {d : PyData} (h : puAll ds = true) (g : pu d = true) : puAll (ds ++ [d]) = true := by
  refine puAll_of fun x hx => ?_
  rcases List.mem_append.mp hx with hx | hx
  · induction ds with
    | nil => cases hx
    | cons e es ih =>
      obtain ⟨p1, p2⟩ := Bool.and_eq_true_iff.mp (show (pu e && puAll es) = true from h)
      rcases List.mem_cons.mp hx with rfl | hx
      · exact p1
      · exact ih p2 (List.mem_append_left _ hx) hx
  · rw [List.mem_singleton.mp hx]
    exact g
section
variable {σ σ2 : St} {H H' : Hp} {te : TE} {tt : TT} {D : Addr} {ds : List PyData} {b : Bool} {f : PyData}
theorem cw_turn (p : Cw H D ds H') (hz : ds.length < 1000000) (ht : Et tt σ2 H b) (he : b = true → Ed te σ2 H (isD f) ∧ pu f = true) :
    tt σ2 H' fun b' H3 => if b' = true then te σ2 H3 fun y H4 => ∃ acc, H4 D = some (.lst acc) ∧ acc.length < sizeLine ∧
      Cw H D (if b = true then ds ++ [f] else ds) (upd H4 D (.lst (acc ++ [y]))) else Cw H D (if b = true then ds ++ [f] else ds) H3 := by
  obtain ⟨p1, p2, pp, ys, p3, p4⟩ := p
  refine ht H' p2 _ fun H3 e3 => ?_
  cases b with
  | true =>
    show te σ2 H3 _
    obtain ⟨he, pf⟩ := he rfl
    refine he H3 (p2.trans e3) _ fun y H4 e4 hy => ⟨ys, e4 _ _ (e3 _ _ p3), ?_, p1, same_mut ((p2.trans e3).trans e4) p1, puAll_snoc pp pf, _, upd_same, ?_⟩
    · rw [p4.length, sizeLine_eq]
      omega
    · exact (((p4.same e3).same e4).tk (tk_lst (e4 _ _ (e3 _ _ p3))) pp).snoc (hy.tk (tk_lst (e4 _ _ (e3 _ _ p3))) pf)
  | false => exact ⟨p1, p2.trans e3, pp, ys, e3 _ _ p3, p4.same e3⟩
end
/-- the data told by the first i items -/
def told (n : Nat) (b : Nat → Bool) (f : Nat → PyData) : List PyData := ((List.range n).filter b).map f
theorem told_succ (n : Nat) (b : Nat → Bool) (f : Nat → PyData) : told (n + 1) b f = if b n = true then told n b f ++ [f n] else told n b f := by
  unfold told
  rw [List.range_succ, List.filter_append, List.map_append]
  cases h : b n with
  | true => simp [h]
  | false => simp [h]
theorem told_len (n : Nat) (b : Nat → Bool) (f : Nat → PyData) : (told n b f).length ≤ n := by
  unfold told
  rw [List.length_map]
  have h := List.length_filter_le b (List.range n)
  rwa [List.length_range] at h
/-- what a comprehension leaves -/
def LcEnd (H : Hp) (ds : List PyData) (Q : VK) : Prop := ∀ (D : Addr) (H' : Hp) (ys : List V), H D = none → Same H H' → H' D = some (.lst ys) → DtAll H' ys ds → Q (.ref D) H'
section
variable {K : PySem.W.Frag} {σ : St} {H : Hp} {te : TE} {tt : TT} {vs : List Nat} {j : Nat} {Q : VK} {b : Nat → Bool} {f : Nat → PyData}
/-- [e for x in range(n) if t] -/
theorem lc_rng {n : Nat} {ta : TA} (hn : n ≤ 100000) (ha : ∀ Q', (∀ H1, Same H H1 → Q' [.int (n : Int)] H1) → ta σ H Q') (hw : ∀ x, wipe ((wipe σ vs).set j (some x)) vs = wipe σ vs)
    (ht : ∀ (i : Nat), i < n → Et tt ((wipe σ vs).set j (some (.int (i : Int)))) H (b i))
    (he : ∀ (i : Nat), i < n → b i = true → Ed te ((wipe σ vs).set j (some (.int (i : Int)))) H (isD (f i)) ∧ pu (f i) = true) (k : LcEnd H (told n b f) Q) : tLc (iRng1 ta) (gName j) tt te vs σ H Q := by
  refine ha _ fun H1 e1 => ⟨(n : Int), rfl, by omega, by omega, fun D hD => ?_⟩
  have hD0 := same_free e1 hD
  refine lc_range (lo := 0) (n := n) (fun i H' => Cw H D (told i b f) H') ⟨hD0, e1.trans (sameNew hD), rfl, [], upd_same, .nil⟩ (fun i H' hi p => ⟨?_, ?_⟩) (fun H' p => ?_)
  · exact hw _
  · rw [told_succ]
    have e0 : (0 : Int) + (i : Int) = (i : Int) := Int.zero_add _
    show tt ((wipe σ vs).set j (some (.int ((0 : Int) + (i : Int))))) H' _
    rw [e0]
    have := told_len i b f
    exact cw_turn p (by omega) (ht i hi) (he i hi)
  · obtain ⟨p1, p2, _, ys, p3, p4⟩ := p
    exact k D H' ys p1 p2 p3 p4
/-- [e for x in xs if t], xs a list -/
theorem lc_lst {tl : TE} {a : Addr} {xs : List V} (hx : H a = some (.lst xs)) (hz : xs.length ≤ 100000) (ha : ∀ Q' : VK, (∀ H1, Same H H1 → Q' (.ref a) H1) → tl σ H Q') (hw : ∀ x, wipe ((wipe σ vs).set j (some x)) vs = wipe σ vs)
    (ht : ∀ (i : Nat) (x : V), xs[i]? = some x → Et tt ((wipe σ vs).set j (some x)) H (b i))
    (he : ∀ (i : Nat) (x : V), xs[i]? = some x → b i = true → Ed te ((wipe σ vs).set j (some x)) H (isD (f i)) ∧ pu (f i) = true) (k : LcEnd H (told xs.length b f) Q) : tLc (iList K tl) (gName j) tt te vs σ H Q := by
  refine ha _ fun H1 e1 => ⟨a, rfl, ⟨xs, SqL.of (e1 _ _ hx)⟩, fun D hD => ?_⟩
  have hD0 := same_free e1 hD
  refine lc_list (xs := xs) (fun i H' => Cw H D (told i b f) H') ⟨hD0, e1.trans (sameNew hD), rfl, [], upd_same, .nil⟩ (fun i H' _ p => SqL.of (p.2.1 _ _ hx)) (fun i x H' hi p => ⟨hw x, ?_⟩) (fun H' p => ?_)
  · rw [told_succ]
    have := told_len i b f
    have hl := (List.getElem?_eq_some_iff.mp hi).1
    exact cw_turn p (by omega) (ht i x hi) (he i x hi)
  · obtain ⟨p1, p2, _, ys, p3, p4⟩ := p
    exact k D H' ys p1 p2 p3 p4
/-- [e for x in xs if t], xs a tuple -/
theorem lc_tpl {tl : TE} {a : Addr} {xs : List V} (hx : SqT K H a xs) (hs : ∀ H', Same H H' → SqT K H' a xs) (hz : xs.length ≤ 100000) (ha : ∀ Q' : VK, (∀ H1, Same H H1 → Q' (.ref a) H1) → tl σ H Q') (hw : ∀ x, wipe ((wipe σ vs).set j (some x)) vs = wipe σ vs)
    (ht : ∀ (i : Nat) (x : V), xs[i]? = some x → Et tt ((wipe σ vs).set j (some x)) H (b i))
    (he : ∀ (i : Nat) (x : V), xs[i]? = some x → b i = true → Ed te ((wipe σ vs).set j (some x)) H (isD (f i)) ∧ pu (f i) = true) (k : LcEnd H (told xs.length b f) Q) : tLc (iTup K tl) (gName j) tt te vs σ H Q := by
  refine ha _ fun H1 e1 => ⟨a, rfl, ⟨xs, hs H1 e1⟩, fun D hD => ?_⟩
  have hD0 := same_free e1 hD
  refine lc_tup (xs := xs) (fun i H' => Cw H D (told i b f) H') ⟨hD0, e1.trans (sameNew hD), rfl, [], upd_same, .nil⟩ (fun i H' _ p => hs H' p.2.1) (fun i x H' hi p => ⟨hw x, ?_⟩) (fun H' p => ?_)
  · rw [told_succ]
    have := told_len i b f
    have hl := (List.getElem?_eq_some_iff.mp hi).1
    exact cw_turn p (by omega) (ht i x hi) (he i x hi)
  · obtain ⟨p1, p2, _, ys, p3, p4⟩ := p
    exact k D H' ys p1 p2 p3 p4
end
theorem arg_c {v : V} {σ : St} {H : Hp} (Q' : List V → Hp → Prop) (q : ∀ H1, Same H H1 → Q' [v] H1) : (tCons (tC v) tNil) σ H Q' := q H (Same.refl H)
/-! peeling a reading -/
theorem go_seq {t u : TS} {D : Ends} {σ : St} {H : Hp} (h : t { D with nx := u D } σ H) : tSeq t u D σ H := h
theorem go_asg {te : TE} {g : TG} {D : Ends} {σ : St} {H : Hp} (h : te σ H fun x H1 => g x σ H1 D.nx) : tAsg te g D σ H := h
theorem go_ret {te : TE} {D : Ends} {σ : St} {H : Hp} (h : te σ H D.rt) : tRet te D σ H := h
theorem go_drop {te : TE} {D : Ends} {σ : St} {H : Hp} (h : te σ H fun _ H1 => D.nx σ H1) : tDrop te D σ H := h
end Cl

/-! Lay6: the head: what the names of the module stand for, told by a Hook; the law's end over it. -/
namespace Cl
open PySem PySem.Spec
open PyProof.Rows hiding St
open L2

/-- the law from its promise, the written part told by the head -/
theorem walk_gE {l : PySem.W.OpenLaw} {n k : Nat} {q : Program} {loose : List Str} {XP : (Str → Option Value) → Heap → Prop} {YP : World → Heap → Prop} {d : DefRec} {x : Str}
    (hn : l.most = some n) (hn2 : n ≤ sizeLine) (hdf : d.params.defaults = []) (hr : Room k callerA)
    (F : ∀ (w : World) (mg : Str → Option Value) (fa : Addr) (h : Heap), YP w h → h.Ns mainGlobals mg → mg d.name = some (.ref fa) →
      ∃ (K : PySem.W.Frag) (fd : FuncData) (sp : Sp), K.In h ∧ (∀ (s : Shared) (u : Value), BindsTo s fd ⟨[u], []⟩ [(x, u)]) ∧
        (∀ (H : Hp) (a : Addr) (ns : List Int), ns.length ≤ n → (∀ b xs, H b ≠ some (.tup xs)) → SqL K H a (ns.map V.int) → sp [.ref a] H (fun v _ => v = .bl true) fun _ _ _ => False) ∧
        ∀ base : Heap, K.In base → base.Ns mainGlobals mg → FnG l.prog w K mg base k fa fd [x] sp) :
    PySem.W.WalkO q loose XP YP l.row.toRowW d [] (fun f vs => PySem.call f vs) := by
  refine Att.attach_call hn hdf fun w s₀ s₁ mg mb fa o pm cd doc a vs ns G Y ho hd hcd hmg hobj hints hlen hg => ?_
  obtain ⟨K, fd, sp, KX, hb, hsp, hF⟩ := F w mg fa _ Y G.T.g hmg
  exact law_g KX G.T.g G.T.b G.T.builtins G.T.nolimit hg hobj hints (Nat.le_trans hlen hn2) hr hF hb fun H hN hS => hsp H a ns hlen hN hS

/-- a def of the module by its datum -/
def topD (x : Str) (st : Stmt) : He.DefD := ⟨(x, none), x, x, defArgs st, defBody st, defScope st, [], []⟩
/-- a method of a class of the module -/
def metD (C m q : Str) (st : Stmt) : He.DefD := ⟨(C, some m), m, q, defArgs st, defBody st, defScope st, [], []⟩
section
variable {fa : List He.Fa} {fn : List He.DefD} {K : PySem.W.Frag} {h : Heap} {mg : Str → Option Value}
theorem top_of (c : He.SaysD fa fn K) (X : K.In h) (G : h.Ns mainGlobals mg) {x : Str} {st : Stmt} {ps : List Str} (i j : Nat)
    (hi : fn[i]? = some (topD x st)) (hj : fa[j]? = some (.glo x))
    (hb : ∀ {f : Addr} {fd : FuncData}, FnAt K x x st f fd → Binds K fd ps []) : Top K mg x st ps := by
  obtain ⟨fd, F⟩ := c.def_ i hi
  exact ⟨_, fd, F, He.glo_ok X G (c.fact j hj), hb F⟩
theorem met_of (c : He.SaysD fa fn K) {C m q : Str} {st : Stmt} {ps : List Str} (i j : Nat) (hi : fn[i]? = some (metD C m q st)) (hj : fa[j]? = some (.meth C m))
    (hb : ∀ {f : Addr} {fd : FuncData}, FnAt K m q st f fd → Binds K fd ps []) :
    ∃ fd, PySem.W.findIn K (.ref (He.ga K C)) m = some (some (.ref (He.ma K (He.ga K C) m))) ∧ PySem.W.typeIn K (.ref (He.ma K (He.ga K C) m)) = some (.type "function") ∧
      FnAt K m q st (He.ma K (He.ga K C) m) fd ∧ Binds K fd ps [] := by
  obtain ⟨fd, F⟩ := c.def_ i hi
  have c1 := c.fact j hj
  obtain ⟨c2, c3⟩ := He.ba (show (He.eqO (PySem.W.findIn K (.ref (He.ga K C)) m) (some (some (.ref (He.ma K (He.ga K C) m)))) && (PySem.W.isFn K (.ref (He.ma K (He.ga K C) m)) && PySem.W.keepIn K (.ref (He.ma K (He.ga K C) m)))) = true from c1)
  exact ⟨fd, He.eqO_ok c2, beq_iff_eq.mp (He.ba c3).1, F, hb F⟩
end
end Cl

/-! LayX: raise C(e, ..) of an own class whose __init__ stores its arguments; try with several clauses "except C as e". -/
namespace Cl
open PySem PySem.Spec
open PyProof.Rows hiding St
open L2

section
variable {X : Cx} {k : Nat} {names ps : List Str} {C : Addr} {x : Str} {e : Expr} {es : List Expr} {ta : TA} {p pos : Pos}
/-- raise C(e, ..): all that stood stands, the fields stand at a new place -/
def tRsE (C : Addr) (names : List Str) (ta : TA) : St → Hp → XK → Prop := fun σ H Q => ta σ H fun vs H1 => vs.length = names.length ∧ vs.length ≤ 1000 ∧
  ∀ (d : Addr) (H2 : Hp), H1 d = none → Same H1 H2 → H2 d = some (.xd (names.zip vs).reverse) → Q (.ref C) (some d) H2
theorem pmk_g (M : EMk X.prog X.w X.K X.mg X.base x k names ps C) (hr : Room (k + 1) X.A) (hgd : X.A.guards = some []) (hg : Gl X x) (ha : PA X (e :: es) ta)
    (hdb : (x == ("__debug__" : Str)) = false := by decide) (he : starEach (e :: es) X.env = (false, eval e X.env) :: starEach es X.env := by rfl) (hpl : (backTo pos (starEach es X.env)).any (·.1) = false := by rfl) :
    PMk X (.Call (.Name x p) (e :: es) [] pos) (tRsE C names ta) := by
  intro pins s σ H Q I h
  obtain ⟨fI, fd, iC, tI, F, hb⟩ := M.ini
  obtain ⟨nm, q, N, bs, bm, sn, sub, ab, col, dd, k0, k1, k2, k3, k5, hC, hbm⟩ := M.ec.oe.cls
  refine wpAny_Call_Name_kw (ld_glob I hg M.nm ?_ hdb)
  refine PySem.W.callWith_K (h₀ := X.base) I.ok.mod.kin M.ec.oe.kC (thn (ha.run pos pins s σ H _ I h) ?_) he hpl
  rintro us s1 ⟨vs, H1, I1, r1, ln, lz, q1⟩
  refine ⟨I1.kIn, ?_⟩
  show wpAny _ _ (call (.ref C) us) _ _ _
  obtain ⟨hp, g, dr, tk, os⟩ := s1
  have up1 : hp.objs.size ≤ hp.objs.size + 1 := Nat.le_succ _
  have hn : H1 (hp.objs.size + 1) = none := I1.hok.fresh up1
  have grow : ∀ b o, hp.get? b = some o → ((hp.push (PySem.W.kdv_tup us)).push (PySem.HandSPX.excO C hp.objs.size)).get? b = some o := fun b o z => Heap.get?_push_of_some _ (Heap.get?_push_of_some _ z)
  have hget : ((hp.push (PySem.W.kdv_tup us)).push (PySem.HandSPX.excO C hp.objs.size)).get? (hp.objs.size + 1) = some (PySem.HandSPX.excO C hp.objs.size) := by heap_get
  have I2 : Inv X pins σ (upd H1 (hp.objs.size + 1) (exo (hp.objs.size + 1) C none)) ⟨(hp.push (PySem.W.kdv_tup us)).push (PySem.HandSPX.excO C hp.objs.size), g, dr, tk, os⟩ :=
    I1.laid (t' := tk) grow up1 (exo_ok hget)
  have r2 : Vals (V.ref (hp.objs.size + 1) :: vs) (Value.ref (hp.objs.size + 1) :: us) := .cons rfl r1
  have hl : (Value.ref (hp.objs.size + 1) :: us ++ []).length = ps.length := by
    rw [List.append_nil, List.length_cons, M.len, ← Paired.length r1, ln]
  have bt := hb _ (Value.ref (hp.objs.size + 1) :: us) I2.kIn hl
  rw [List.append_nil] at bt
  have hus : us.length ≤ sizeLine := by
    rw [← Paired.length r1, sizeLine_eq]
    omega
  have hq : spI X.K names (.ref (hp.objs.size + 1) :: vs) (upd H1 (hp.objs.size + 1) (exo (hp.objs.size + 1) C none))
      (fun v H2 => v = .non ∧ ∃ (d : Addr) (fs : List (Str × V)), H2 (hp.objs.size + 1) = some (exo (hp.objs.size + 1) C (some d)) ∧ H2 d = some (exd d fs) ∧ H1 d = none ∧ Q (.ref C) (some d) (upd (del H2 (hp.objs.size + 1)) d (.xd fs))) E0 := by
    refine ⟨hp.objs.size + 1, C, vs, rfl, ln, M.ec, M.no, upd_same, fun d H' hd nda h1 h2 h3 => ?_⟩
    have hd' : H1 d = none := by rw [upd_ne nda] at hd; exact hd
    refine ⟨rfl, d, _, h1, h2, hd', q1 d _ hd' (fun b o z => ?_) upd_same⟩
    rw [upd_ne (ne_of_none z hd'), del_ne (ne_of_none z hn), h3 b (ne_of_none z hn) (ne_of_none z hd'), upd_ne (ne_of_none z hn)]
    exact z
  refine wpAny_call (PySem.HandSPX.call_own PySem.F.excBase_ValueError (fun Y => PySem.HandSPX.refsVE_contains Y bm hbm) (I1.kIn _ _ hC)
    (PySem.W.looks_findIn I1.kIn iC) (fun self => PySem.W.bind_fn I1.kIn self tI) hus
    (codeAny_mono (F.go (hr.make C us []) (under_guards.trans hgd) (I2.env0.make C us []) bt r2 hq) fun r s' out => ?_))
  match r, out with
  | .error er, out => exact passNo σ pins _ _ er s' I2 out
  | .ok (.ret u), out =>
    obtain ⟨v, H2, os2, bare2, un2, hok2, rv, ev, d, fs, ea, ed, hd1, q2⟩ := out
    subst ev
    obtain ⟨h2, g2, d2, t2, os'⟩ := s'
    exact ⟨rv, mk_end (raises_own M.ec.oe.exC M.ec.oe.tyC) I1 up1 grow un2 hok2 os2 bare2 ea ed hd1 q2⟩
  | .ok .next, out => exact False.elim out
  | .ok .brk, out => exact False.elim out
  | .ok .cont, out => exact False.elim out
end

/-! ### except C as e, several -/
/-- the ends of a suite whose name, slot i, goes -/
def goneE (i : Nat) (D : Ends) : Ends := { nx := fun σ' H' => D.nx (σ'.set i none) H', rt := D.rt, bk := fun σ' H' => D.bk (σ'.set i none) H', ct := fun σ' H' => D.ct (σ'.set i none) H' }
/-- what the clauses wish of an exception of the body, one behind the other -/
def wAll (K : PySem.W.Frag) (Wo : WX) (D : Ends) : List (Value × Nat × (Addr → Value → Option Addr → TS)) → WX
  | [] => Wo
  | (c, i, ts) :: r => fun cls d σ H => ∃ b, PySem.W.exmOne K cls c = some b ∧ (b = true → ∀ a, H a = none → ts a cls d (goneE i D) (σ.set i (some (.ref a))) H) ∧ (b = false → wAll K Wo D r cls d σ H)
inductive Clauses (X : Cx) : List ExceptHandler → List (Value × Nat × (Addr → Value → Option Addr → TS)) → Prop
  | nil : Clauses X [] []
  | cons {x n : Str} {c : Value} {i : Nat} {ts : Addr → Value → Option Addr → TS} {b₀ : Stmt} {suite : List Stmt} {np ps : Pos} {hds : List ExceptHandler} {l : List (Value × Nat × (Addr → Value → Option Addr → TS))}
      (hc : Names X x c) (hN : X.N.Nodup) (hi : X.N[i]? = some n) (hl : X.env.kindOf n = some .local)
      (su : ∀ (a : Addr) (oe : Obj) (cls : Value) (d : Option Addr) (pn : List (Addr × Obj)), Zc cls d oe → (∃ vs, oe.data = .fields vs) → PSs (X.suite a ((a, oe) :: pn)) (b₀ :: suite) (ts a cls d))
      (r : Clauses X hds l) : Clauses X (.ExceptHandler (some (.Name x np)) (some n) (b₀ :: suite) ps :: hds) ((c, i, ts) :: l)
section
variable {X : Cx} {body : List Stmt} {h₀ : ExceptHandler} {hds : List ExceptHandler} {l : List (Value × Nat × (Addr → Value → Option Addr → TS))} {pos : Pos} {tb : WX → TS} {Wo : WX}
theorem ps_tryAs (hs : X.stack = X.env :: X.outer) (hf : X.env.frame = some X.env.locals) (tk : Takes X Wo)
    (hb : ∀ (W : WX) (pn : List (Addr × Obj)) (xe : Value → Shared → Prop), Takes (X.tr pn xe) W → PassesOwn (model X.prog X.w) X.A X.env xe → PSs (X.tr pn xe) body (tb W))
    (hh : Clauses X (h₀ :: hds) l) : PS X (.Try body (h₀ :: hds) [] [] pos) (fun D σ H => tb (wAll X.K Wo D l) D σ H) := by
  constructor
  intro pins s σ H D I h
  have ok := I.ok
  have frames : X.A.frames = some (X.env :: X.outer) := ok.frames.trans (by rw [hs])
  refine wpAny_Try_except ?_
  refine wpAny_mono ((hb (wAll X.K Wo D l) (X.pn ++ pins)
    (fun e s₁ => wpAny (model X.prog X.w) X.A (noteFrame e X.env) (fun _ s₂ =>
      wpAny (model X.prog X.w) X.A (setFlight e none) (fun _ s₃ =>
        wpAny (model X.prog X.w) X.A (handleBy e X.env (h₀ :: hds)) (SP X pins D) X.xe s₃) X.xe s₂) X.xe s₁)
    (fun u s' air => ?_) PassesOwn.looking).run [] s σ H D (I.toTry _) h) (fun fl s1 out => ?_) (fun e s1 he => he)
  · obtain ⟨a, B, sI, pins', σ', H', cls, d, rfl, J', nb, up, sky, na, os, ag, wish⟩ := air
    have J : Inv X pins σ' H' sI := J'.ofTry ok
    show wpAny (model X.prog X.w) X.A (noteFrame (.ref a) X.env) _ _ _
    refine Sky.land Zc.steady frames hf (by rw [← hs]; exact sky) fun h3 fl3 up3 => ?_
    have J3 : Inv X pins σ' H' { s' with heap := h3 } := J.landed nb fl3.1 (up.trans up3) os ag
    obtain ⟨oe3, vs3, he3, hz3, hd3⟩ := fl3.there
    have nfr : a ∉ frs (X.env :: X.outer) := fun z => by
      obtain ⟨_, o', e', no⟩ := fl3.2.2.1.mem z
      rw [he3] at e'
      cases e'
      exact no _ hd3
    have nL : a ≠ X.env.locals := fun z => nfr (List.mem_filterMap.mpr ⟨X.env, List.mem_cons_self, by rw [hf, z]⟩)
    have nF : a ∉ X.fs := fun z => by
      obtain ⟨e, he, q⟩ := List.mem_filterMap.mp z
      exact nfr (List.mem_filterMap.mpr ⟨e, List.mem_cons_of_mem _ he, q⟩)
    have S3 := J3.suite he3 hd3 na nL nF
    have LT : PySem.W.Looks (model X.prog X.w) h3 (typeOf (.ref a)) cls := fun A Q E s k q => wpAny_typeOf_ref (k _ _ he3) (by rw [hz3.1]; exact q)
    have go : ∀ {hs' : List ExceptHandler} {l' : List (Value × Nat × (Addr → Value → Option Addr → TS))}, Clauses X hs' l' → wAll X.K Wo D l' cls d σ' H' →
        wpAny (model X.prog X.w) X.A (handleBy (.ref a) X.env hs') (SP X pins D) X.xe { s' with heap := h3 } := by
      intro hs' l' cl
      induction cl with
      | nil =>
        intro wish
        refine wpAny_handleBy_nil ?_
        obtain ⟨_, _, _, oe, vs, T, oT, ts', he, hz, hd, h1, _⟩ := id fl3
        unfold PySem.passOn
        refine wpAny_bind (wpAny_field he hd h1 ?_)
        rw [if_neg (show ¬ ((Value.ref T == Value.none) = true) from by simp)]
        have fin : wpAny (model X.prog X.w) X.A (setFlight (.ref a) X.env.frame) (fun _ s4 => wpAny (model X.prog X.w) X.A (throw (.ref a) : Sem Flow) (SP X pins D) X.xe s4) X.xe { s' with heap := h3 } := by
          rw [hf]
          refine HandSPX.setFlight_upZ fl3 fun h4 sky4 up4 => wpAny_throw (tk _ _ ?_)
          exact ⟨a, B, sI, pins, σ', H', cls, d, rfl, J, nb, (up.trans up3).trans up4, Or.inr (Or.inr (by rw [hs]; exact sky4)), na, os, ag, wish⟩
        first
          | exact wpAny_bind (wpAny_pure (wpAny_bind fin))
          | exact wpAny_bind fin
      | @cons x n c i ts b₀ suite np ps' hds2 l2 hc hN hi hln su r ih =>
        rintro ⟨b, hb1, yes, no⟩
        refine wpAny_handleBy_cons (codeAny_handlers_test ?_) (by intro q; cases q)
        have LM := PySem.W.exm_one (M := model X.prog X.w) (J3.kIn) LT hb1
        have test : ∀ {Q : Value → Shared → Prop} {E : Value → Shared → Prop}, Q c { s' with heap := h3 } →
            wpAny (model X.prog X.w) (X.A.mark (some (.ref a))) (eval (.Name x np) X.env) Q E { s' with heap := h3 } := fun {Q E} q => by
          obtain ⟨g1, g2, g3 | ⟨g3, g4, g5⟩⟩ := hc
          · exact ld_glob (X := X.suite a ((a, oe3) :: (X.pn ++ pins))) S3 g1 g3 q g2
          · exact ld_blt (X := X.suite a ((a, oe3) :: (X.pn ++ pins))) S3 g1 g3 g4 q g5 g2
        refine test (LM.here ?_)
        cases b with
        | true =>
          refine codeAny_handlers_suite_as ?_
          refine HandSPX.lands_againZ fl3 fun h4 fl4 up4 => ?_
          have J4 : Inv X pins σ' H' { s' with heap := h4 } := J.landed nb fl4.1 ((up.trans up3).trans up4) os ag
          obtain ⟨oe4, vs4, he4, hz4, hd4⟩ := fl4.there
          have S4 := J4.suite he4 hd4 na nL nF
          refine store_ok (X := X.suite a ((a, oe4) :: (X.pn ++ pins))) (v := .ref a) S4 hN hi (.inl hln) rfl (fun s5 S5 => ?_) (.inr hln)
          refine wpAny_mono ((su a oe4 cls d (X.pn ++ pins) hz4 ⟨_, hd4⟩).run [] s5 _ H' _ S5 (yes rfl a na)) (fun f s6 hsp => ?_) (fun _ _ z => False.elim z)
          have off : ∀ {σ6 : St} {H6 : Hp} {Q : Shared → Prop}, Inv (X.suite a ((a, oe4) :: (X.pn ++ pins))) [] σ6 H6 s6 → (∀ s7, Inv X pins (σ6.set i none) H6 s7 → Q s7) →
              wpAny (model X.prog X.w) X.A (do bindName X.env n .none; unbindBehindTheSuite X.env n ps') (fun _ s7 => Q s7) X.xe s6 := fun {σ6 H6 Q} S6 hq => gone_ok (S6.unsuite ok) hN hi hln hq
          cases f with
          | next =>
            obtain ⟨σ6, H6, S6, q6⟩ := hsp
            exact off S6 fun s7 J7 => ⟨_, _, J7, q6⟩
          | brk =>
            obtain ⟨σ6, H6, S6, q6⟩ := hsp
            exact off S6 fun s7 J7 => ⟨_, _, J7, q6⟩
          | cont =>
            obtain ⟨σ6, H6, S6, q6⟩ := hsp
            exact off S6 fun s7 J7 => ⟨_, _, J7, q6⟩
          | ret u =>
            obtain ⟨v6, σ6, H6, S6, r6, q6⟩ := hsp
            exact off S6 fun s7 J7 => ⟨_, _, _, J7, r6, q6⟩
        | false =>
          show wpAny _ X.A (handleBy (.ref a) X.env hds2) _ _ _
          exact ih (no rfl)
    exact go hh wish
  · cases fl with
    | next =>
      obtain ⟨σ', H', J', q⟩ := out
      exact wpAny_execs_nil ⟨σ', H', J'.ofTry ok, q⟩
    | brk =>
      obtain ⟨σ', H', J', q⟩ := out
      exact ⟨σ', H', J'.ofTry ok, q⟩
    | cont =>
      obtain ⟨σ', H', J', q⟩ := out
      exact ⟨σ', H', J'.ofTry ok, q⟩
    | ret u =>
      obtain ⟨v, σ', H', J', r, q⟩ := out
      exact ⟨v, σ', H', J'.ofTry ok, r, q⟩
end
theorem EC.xf {K : PySem.W.Frag} {C : Addr} (e : EC K C) : XfC K C := ⟨e.ga, e.gg, e.oe.exC, e.hd⟩
end Cl

/-! LayL: a lambda without parameters handed to a def that calls it (guards told); the law's end with tables of code objects. -/
namespace Cl
open PySem PySem.Spec
open PyProof.Rows hiding St
open L2
open LamX (CodeO TabS Tabs ExtN TabB LamS lamEnv lamCx lam_start2 lam_make2 codeO_ne)

/-- tables may grow, all else stays -/
theorem extN_kd {H H' : Hp} (e : ExtN H H') : Kd H H' := fun a o d h => e a o h fun ps z => by rw [z] at d; cases d
theorem Pen.ext {H H' : Hp} {p c : Addr} {n : Nat} (h : Pen H p c n) (e : ExtN H H') : Pen H' p c n := by
  obtain ⟨i, dg, ct, fo, ns, h1, h2, r⟩ := h
  exact ⟨i, dg, ct, fo, ns, e _ _ h1 (fun _ z => by cases z), e _ _ h2 (fun _ z => by cases z), r⟩

section
variable {X : Cx} {pins : List (Addr × Obj)} {σ : St} {H : Hp} {s : Shared}
/-- x(), x the parameter that got the lambda -/
theorem pe_actG {Eg : XK} {Ng : List Str} {qg : Str} {sg : Scope} {g f c' : Addr} {cdg pm ctv : Value} {params : Arguments} {body : Expr} {scope : Scope} {k i : Nat} {a : Str}
    {pn : List (Addr × Obj)} {xe : Value → Shared → Prop} {W : WX} {tb : XK → TE} {p1 p2 : Pos}
    (I : Inv X pins σ H s) (L : LamS X.env.scope scope) (hgd : X.A.guards = some [])
    (hf : s.heap.get? f = some (PySem.W.kla_obj "<lambda>" (X.env.qual ++ "<lambda>") params body scope (cloFrom X.env.cells scope.names []) pm c' ctv))
    (hfn : H f = none) (hfr : f ∉ frs X.stack)
    (bind0 : bindArgs (PySem.W.kla_fn "<lambda>" (X.env.qual ++ "<lambda>") params body scope (cloFrom X.env.cells scope.names []) pm (.ref c') ctv) ⟨[], []⟩ = pure [])
    (tk : Takes ((cxOf (L2.CX X.prog X.w) X.prog X.w X.K X.mg X.base Ng qg sg g cdg X.A X.stack s H Eg).tr pn xe) W)
    (hr : Room (k + 1) (X.A.deeper (envOfC qg sg s.heap.objs.size g cdg)))
    (hbody : ∀ (A : Around) (outer : List Env) (s : Shared) (H : Hp) (E : XK), A.guards = some [] → Room k (A.deeper (lamEnv X scope s.heap.objs.size f c')) → PE (lamCx X A outer s H E scope f c') body (tb E))
    (hN : Ng[i]? = some a) (hv : Vis sg a) (hd : (a == ("__debug__" : Str)) = false := by decide) (hcd : (a == ("__classdict__" : Str)) = false := by decide) :
    PE ((cxOf (L2.CX X.prog X.w) X.prog X.w X.K X.mg X.base Ng qg sg g cdg X.A X.stack s H Eg).tr pn xe) (.Call (.Name a p1) [] [] p2)
      (fun σZ HZ Q => σZ[i]? = some (some (.ref f)) ∧ HZ c' = some (CodeO c' (X.env.qual ++ "<lambda>")) ∧ tb (WE W σZ) σ HZ Q) := by
  constructor
  rintro pinsZ sZ σZ HZ Q IZ ⟨at_f, at_c, ht⟩
  refine wpAny_Call_Name_kw (thn ((pe_var (pos := p1) (i := i) hN hv hd hcd).run pinsZ sZ σZ HZ (fun v H1 => v = .ref f ∧ H1 = HZ) IZ ⟨.ref f, at_f, rfl, rfl⟩) ?_)
  rintro u s1 ⟨v, H1, I1, r1, ev, eH⟩
  subst ev
  rw [eH] at I1
  obtain rfl : u = Value.ref f := r1
  have there := I1.base.keep f _ hf hfn hfr (fun z => nomatch (show f ∈ ([] : List Addr) from z))
  refine PySem.W.callWith_F0 ⟨_, _, _, _, there⟩ ?_
  have un : Un (frs X.stack) [] H HZ s.heap s1.heap := I1.base
  obtain ⟨⟨oc, vs, t, hoc, hdc, hvc⟩, _, _⟩ := I1.hok c' _ at_c
  have rc : codeAny (model X.prog X.w) (X.A.deeper (envOfC qg sg s.heap.objs.size g cdg)) (.call (.ref f) ⟨[], []⟩)
      (CR (L2.CX X.prog X.w) (envOfC qg sg s.heap.objs.size g cdg :: X.stack) X.prog X.w HZ s1 Q (WE W σZ)) s1 := by
    refine PySem.W.kla_callFunE hr.depth there rfl L.co L.gen rfl ⟨c', oc, vs, t, rfl, hoc, hdc, hvc⟩ ?_
    rw [bind0]
    refine wpAny_pure (wpAny_newFunctionEnv (fun y hy => (L.own y hy).2) (fun y hy => absurd hy (by simp)) (fun h₁ hns hsb => ⟨I1.nolimit.fresh _ hsb, ?_⟩) L.kind)
    show codeAny _ _ (.expr body (lamEnv X scope s1.heap.objs.size f c')) _ _
    have J := lam_start2 (A := X.A.deeper (envOfC qg sg s.heap.objs.size g cdg)) (outer := envOfC qg sg s.heap.objs.size g cdg :: X.stack) (E := WE W σZ) (f := f) (c' := c')
      (tk := s1.toks + ([] : List (Str × Value)).length) I L I1.env0 hr.hd un hns fun b o e => hsb.extBut b o (Nat.ne_of_lt (Heap.lt_size e)) (Heap.get?_push_of_some _ e)
    refine PySem.W.kla_codeExpr (wpAny_mono ((hbody (X.A.deeper (envOfC qg sg s.heap.objs.size g cdg)) (envOfC qg sg s.heap.objs.size g cdg :: X.stack) s1 HZ (WE W σZ) hgd (hr.deeper _)).run [] _ _ HZ Q J ht) ?_ fun e s' hq => hq)
    rintro v s' ⟨w', H', J', rv, q⟩
    exact ⟨w', H', J'.os, J'.bare, J'.base, J'.hok, rv, q⟩
  refine wpAny_call (codeAny_mono rc fun r s' hq => ?_)
  match r, hq with
  | .error e, hq => exact passAt tk σZ pinsZ HZ s1 e s' I1 hq
  | .ok (.ret u), hq => exact I1.after hq
  | .ok .next, hq => exact False.elim hq
  | .ok .brk, hq => exact False.elim hq
  | .ok .cont, hq => exact False.elim hq
end
/-- a def with one parameter a that calls what it got: TT: what it makes of the lambda's reading -/
def GivesG (X : Cx) (Ng : List Str) (x : Str) (sg : Scope) (g : Addr) (cdg : Value) (bg : List Stmt) (a : Str) (q : Str) (k : Nat) (TT : (XK → Hp → VK → Prop) → Hp → VK → Prop) : Prop :=
  ∀ (f c' : Addr) (s : Shared) (H : Hp) (Q : VK) (tl : XK → Hp → VK → Prop),
    Room k (Bd X.prog X.w X.K X.mg X.base Ng x sg g cdg X.A X.stack s H E0).A →
    (Bd X.prog X.w X.K X.mg X.base Ng x sg g cdg X.A X.stack s H E0).A.guards = some [] →
    (∀ (W : WX) (pn : List (Addr × Obj)) (xe : Value → Shared → Prop) (p1 p2 : Pos), Takes ((Bd X.prog X.w X.K X.mg X.base Ng x sg g cdg X.A X.stack s H E0).tr pn xe) W →
      PE ((Bd X.prog X.w X.K X.mg X.base Ng x sg g cdg X.A X.stack s H E0).tr pn xe) (.Call (.Name a p1) [] [] p2) (fun σZ HZ Q => σZ[0]? = some (some (.ref f)) ∧ HZ c' = some (CodeO c' q) ∧ tl (WE W σZ) HZ Q)) →
    H c' = some (CodeO c' q) → TT tl H Q →
    ∃ t, PSs (Bd X.prog X.w X.K X.mg X.base Ng x sg g cdg X.A X.stack s H E0) bg t ∧ t { nx := fun _ H' => Q .non H', rt := Q } (start Ng [.ref f]) H
/-- the reading of x(lambda: body): T the tables, t the body's reading -/
def tLamG (T : List (Addr × Str)) (TT : (XK → Hp → VK → Prop) → Hp → VK → Prop) (t : XK → TE) : TE := fun σ H Q => Tabs T H ∧ ∀ H1, ExtN H H1 → Tabs T H1 → TT (fun E H' Q' => t E σ H' Q') H1 Q
section
variable {X : Cx}
theorem pe_lamG {T : List (Addr × Str)} {TT : (XK → Hp → VK → Prop) → Hp → VK → Prop} {x a : Str} {st : Stmt} {g c P : Addr} {k : Nat} {fd : FuncData} {Ng : List Str}
    {params : Arguments} {body : Expr} {scope : Scope} {t : XK → TE} {p lpos pos : Pos} (F : FnAt X.K x x st g fd) (hg : Gl X x) (hm : X.mg x = some (.ref g)) (hb : Binds X.K fd [a] [])
    (Sg : FnScope Ng [a] (defScope st)) (hNg : Ng[0]? = some a) (hva : Vis (defScope st) a) (hgd : X.A.guards = some [])
    (hG : ∀ cdg, GivesG X Ng x (defScope st) g cdg (defBody st) a (X.env.qual ++ "<lambda>") (k + 1) TT)
    (TB : TabB X.base X.mg c P) (hcode : X.env.code = .ref c) (inT : (P, X.env.qual ++ "<lambda>") ∈ T) (oneT : ∀ p ∈ T, p.1 = P → p.2 = X.env.qual ++ "<lambda>")
    (hr : Room (k + 2) X.A) (L : LamS X.env.scope scope) (hdef : defaultsOf params X.env = ([], []))
    (bind0 : ∀ (q : Str) (cl : List (Str × Addr)) (pm cv ctv : Value), bindArgs (PySem.W.kla_fn "<lambda>" q params body scope cl pm cv ctv) ⟨[], []⟩ = pure [])
    (hbody : ∀ (A : Around) (outer : List Env) (s : Shared) (H : Hp) (E : XK) (f c' : Addr), A.guards = some [] → Room k (A.deeper (lamEnv X scope s.heap.objs.size f c')) → PE (lamCx X A outer s H E scope f c') body (t E))
    (hdb : (x == ("__debug__" : Str)) = false := by decide) (hd : (a == ("__debug__" : Str)) = false := by decide) (hcd : (a == ("__classdict__" : Str)) = false := by decide) :
    PE X (.Call (.Name x p) [.Lambda params body scope lpos] [] pos) (tLamG T TT t) := by
  constructor
  rintro pins s σ H Q I ⟨hT, h⟩
  obtain ⟨oc, od, dV, kV, doc, pm, an, cdv, ct, osl, rfl, lk, hcg, _, _⟩ := F.ex
  refine wpAny_Call_Name_kw (ld_glob I hg hm ?_ hdb)
  refine PySem.W.callWith_K (h₀ := X.base) I.ok.mod.kin F.kp ?_ (by rfl) (by rfl)
  show wpAny _ _ (spliced ((false, eval (.Lambda params body scope lpos) X.env) :: backTo pos (starEach [] X.env))) _ _ s
  refine Calls.spliced_cons (lam_make2 I TB hcode inT oneT hT hdef (L.has I.ok) fun f c' pm' ctv H1 s' I1 eN T1 hf hfn hfr hco => ?_)
  refine Calls.spliced_nil ⟨I1.kIn, ?_⟩
  have rc : codeAny (model X.prog X.w) X.A (.call (.ref g) ⟨[.ref f], []⟩) (CR (L2.CX X.prog X.w) X.stack X.prog X.w H1 s' Q E0) s' := by
    have bt := hb s' [.ref f] I1.kIn rfl
    rw [List.append_nil] at bt
    refine LamX.run_ofS (N := Ng) (ps := [a]) (us := [.ref f]) (vs := [.ref f]) lk hcg Sg hr I1.env0 bt (.cons rfl .nil) rfl fun hr' => ?_
    exact hG cdv f c' s' H1 Q (fun E H' Q' => t E σ H' Q') hr' hgd
      (fun W pn xe p1 p2 tk => pe_actG (i := 0) (tb := t) I1 L hgd hf hfn hfr (bind0 _ _ _ _ _) tk hr' (fun A outer s H E hgA hr2 => hbody A outer s H E f c' hgA hr2) hNg hva hd hcd) hco (h H1 eN T1)
  refine wpAny_call (codeAny_mono rc fun r s2 hq => ?_)
  match r, hq with
  | .error e, hq =>
    obtain ⟨_, _, _, _, _, _, _, _, _, _, _, _, z⟩ := hq
    exact z.elim
  | .ok (.ret u), hq => exact I1.after hq
  | .ok .next, hq => exact False.elim hq
  | .ok .brk, hq => exact False.elim hq
  | .ok .cont, hq => exact False.elim hq
end
/-- nothing is raised in this context that is wished for -/
theorem takesNo {X : Cx} : Takes X (fun _ _ _ _ => False) := fun _ _ air => by
  obtain ⟨_, _, _, _, _, _, _, _, _, _, _, _, _, _, _, _, z⟩ := air
  exact z.elim

/-! ### a def whose code object is told -/
theorem FnG.ofT {P : Program} {w : World} {K : PySem.W.Frag} {mg : Str → Option Value} {base : Heap}
    {x qual : Str} {ar : Arguments} {bd : List Stmt} {sc : Scope} {dv : List V} {kw : List (Str × V)}
    {p : He.Defn} {fd : FuncData} {N ps : List Str} {k : Nat} {sp : Sp}
    (F : FunD K x qual ar bd sc dv kw (He.fAd K p) fd) (S : FnScope N ps sc)
    (size : ∀ {vs H Q E}, sp vs H Q E → vs.length = ps.length)
    (body : ∀ (A : Around) (fr : List Env) (s : Shared) (H : Hp) (vs : List V) (Q : VK) (E : XK),
      Room k (Bd P w K mg base N qual sc (He.fAd K p) (.ref (He.codeOf K p)) A fr s H E).A →
      (Bd P w K mg base N qual sc (He.fAd K p) (.ref (He.codeOf K p)) A fr s H E).A.guards = some [] → sp vs H Q E →
      ∃ t, PSs (Bd P w K mg base N qual sc (He.fAd K p) (.ref (He.codeOf K p)) A fr s H E) bd t ∧
        t { nx := fun _ H' => Q .non H', rt := Q } (start N vs) H) :
    FnG P w K mg base (k + 1) (He.fAd K p) fd ps sp := by
  refine ⟨size, ?_⟩
  intro A fr s H args us vs Q E hr hgd e0 hb rel hsp
  obtain ⟨oc, od, dV, kV, doc, pm, an, cdv, ct, osl, rfl, lk, hcd, _, _⟩ := F.ex
  obtain ⟨c, rfl⟩ := He.codeIn_ref hcd
  have ec : He.codeOf K p = c := He.codeOf_eq lk rfl
  subst ec
  refine LamX.run_ofS lk hcd S hr e0 hb rel (size hsp) fun hr' => ?_
  exact body A fr s H vs Q E hr' hgd hsp

/-! ### the law's end with tables -/
/-- what stands at the law's entry: the tables, the script -/
def entryH (K : PySem.W.Frag) (T : List Addr) (a : Addr) (vs : List Value) (ns : List Int) : Hp := fun b => if b ∈ T then some (.tbl #[]) else scriptH K a vs ns b
theorem law_gT {P : Program} {w : World} {K : PySem.W.Frag} {mg mb : Str → Option Value} {k : Nat} {fa a : Addr} {cs : List (Addr × Addr)}
    {fd : FuncData} {x : Str} {sp : Sp} {s₁ : Shared} {vs : List Value} {ns : List Int}
    (KX : K.In s₁.heap) (hns : s₁.heap.Ns mainGlobals mg) (hb : s₁.heap.Ns builtinsNs mb)
    (hbb : ∀ x : Str, x ≠ "__name__" → mb x = bootBuiltins x) (hlim : s₁.heap.NoLimit) (hg : s₁.gens = #[])
    (empty : ∀ p ∈ cs, s₁.heap.get? p.2 = some { cls := .none, data := .fields #[] }) (out : ∀ p ∈ cs, K.lookup p.2 = none)
    (code : ∀ p ∈ cs, PySem.W.CodeHd s₁.heap p.1 p.2)
    (main : ∃ (bm : Addr) (ob : Obj), mg "__builtins__" = some (.ref bm) ∧ bm ≠ builtinsNs ∧ s₁.heap.get? bm = some ob ∧
      ob.cls = .type "module" ∧ ob.dict = some builtinsNs ∧ ob.data = .plain)
    (ha : s₁.heap.get? a = some { cls := .type "list", data := .seq vs.toArray }) (hi : IntsAre vs ns)
    (hl : ns.length ≤ sizeLine) (hr : Room k callerA)
    (F : ∀ base : Heap, K.In base → base.Ns mainGlobals mg → (∀ p ∈ cs, TabB base mg p.1 p.2) → FnG P w K mg base k fa fd [x] sp)
    (hbind : ∀ (s : Shared) (u : Value), BindsTo s fd ⟨[u], []⟩ [(x, u)])
    (hsp : ∀ H : Hp, (∀ p ∈ cs, H p.2 = some (.tbl #[])) → SqL K H a (ns.map V.int) →
      sp [.ref a] H (fun v _ => v = .bl true) fun _ _ _ => False) :
    codeAny (model P w) callerA (.call (.ref fa) ⟨[.ref a], []⟩)
      (fun r s' => r = .ok (.ret (.bool true)) ∧ OldK s₁.heap s'.heap ∧ s'.os = s₁.os ∧ AllBare s'.gens) s₁ := by
  have rv := vals_ints hi
  have lenV := hi.length
  generalize hH : entryH K (cs.map (·.2)) a vs ns = H
  have tabs : ∀ b ∈ cs.map (·.2), s₁.heap.get? b = some { cls := .none, data := .fields #[] } ∧ K.lookup b = none := fun b hb' => by
    obtain ⟨p, hp, rfl⟩ := List.mem_map.mp hb'
    exact ⟨empty p hp, out p hp⟩
  have at_ : ∀ b, H b = none ∨ (b ∈ cs.map (·.2) ∧ H b = some (.tbl #[])) ∨
      (b = a ∧ K.lookup a = none ∧ H b = some (.frz { cls := .type "list", data := .seq vs.toArray } (.lst (ns.map V.int)))) := by
    intro b
    rw [← hH]
    unfold entryH
    by_cases c : b ∈ cs.map (·.2)
    · rw [if_pos c]
      exact Or.inr (Or.inl ⟨c, rfl⟩)
    · rw [if_neg c]
      exact scriptH_or.elim Or.inl fun z => Or.inr (Or.inr z)
  have aT : a ∉ cs.map (·.2) := fun z => by
    have q := (tabs a z).1
    rw [ha] at q
    cases q
  have tabH : ∀ p ∈ cs, H p.2 = some (.tbl #[]) := fun p hp => by
    rw [← hH]
    exact if_pos (List.mem_map.mpr ⟨p, hp, rfl⟩)
  have free_of : ∀ {b : Addr} {o : Obj}, s₁.heap.get? b = some o → (∀ n, o.data ≠ .seq vs.toArray n) → o.data ≠ .fields #[] → H b = none := by
    intro b o e d1 d2
    rcases at_ b with z | ⟨z, _⟩ | ⟨rfl, _, _⟩
    · exact z
    · rw [(tabs b z).1] at e
      cases e
      exact absurd rfl d2
    · rw [ha] at e
      cases e
      exact absurd rfl (d1 _)
  have hokH : HOk P w H s₁.heap := by
    intro b u e
    rcases at_ b with z | ⟨zt, z⟩ | ⟨rfl, _, z⟩
    · rw [z] at e
      cases e
    · rw [z] at e
      cases e
      exact (tabs b zt).1
    · rw [z] at e
      cases e
      exact ⟨ha, by rw [List.length_map]; exact hl, vs, _, rv, ha⟩
  have seqS : SqL K H a (ns.map V.int) := by
    cases hk : K.lookup a with
    | some o =>
      have e := KX a o hk
      rw [ha] at e
      cases e
      exact Or.inr ⟨_, vs.toArray, _, hk, rfl, rfl, rfl, by rw [List.size_toArray, lenV]; exact hl, rv⟩
    | none =>
      refine Or.inl (Or.inr ⟨{ cls := .type "list", data := .seq vs.toArray }, ?_⟩)
      rw [← hH]
      unfold entryH
      rw [if_neg aT]
      unfold scriptH
      rw [if_pos ⟨rfl, by rw [hk] <;> rfl⟩]
  have nsK : ∀ {b : Addr} {m : Str → Option Value}, s₁.heap.Ns b m → (hidT s₁.heap H).Ns b m := by
    rintro b m ⟨o, es, ep, e, d, r⟩
    exact ⟨o, es, ep, hidT_get e (free_of e (fun n q => by rw [d] at q; cases q) (fun q => by rw [d] at q; cases q)), d, r⟩
  have kinB : K.In (hidT s₁.heap H) := by
    intro b o e
    refine hidT_get (KX b o e) ?_
    rcases at_ b with z | ⟨zt, _⟩ | ⟨rfl, q, _⟩
    · exact z
    · rw [(tabs b zt).2] at e
      cases e
    · rw [q] at e
      cases e
  obtain ⟨mc, l1, l2⟩ := hlim
  have modB : Mod K mg (hidT s₁.heap H) := ⟨kinB, nsK hns, ⟨mb, nsK hb, hbb⟩, mc, nsK l1, l2⟩
  have tb : ∀ p ∈ cs, TabB (hidT s₁.heap H) mg p.1 p.2 := by
    intro p hp
    refine ⟨?_, ?_, ?_⟩
    · obtain ⟨o, us, file, tf, flags, tg, inF, text, tt, e1, r1, r2, r3, r⟩ := code p hp
      refine ⟨o, us, file, tf, flags, tg, inF, text, tt, hidT_get e1 (free_of e1 (fun n z => ?_) fun z => ?_), r1, r2, r3, r⟩
      · rw [r2] at z
        cases z
      · rw [r2] at z
        cases z
        simp at r3
    · obtain ⟨bm, ob, b1, b2, b3, b4, b5, b6⟩ := main
      refine ⟨bm, ob, b1, b2, fun q => ?_, fun q => ?_, hidT_get b3 (free_of b3 (fun n z => ?_) fun z => ?_), b4, b5, b6⟩
      · obtain ⟨o, es, ep, e, d, _⟩ := hns
        rw [← q, b3] at e
        cases e
        rw [b6] at d
        cases d
      · rw [q, empty p hp] at b3
        cases b3
        cases b6
      · rw [b6] at z
        cases z
      · rw [b6] at z
        cases z
    · intro z
      obtain ⟨o, es, ep, e, d, _⟩ := hns
      rw [z, empty p hp] at e
      cases e
      cases d
  have e0 : Env0 P w K mg (hidT s₁.heap H) callerA [] s₁ H := by
    refine ⟨rfl, modB, fun b o e => of_hidT e, Nat.le_of_eq (hidT_size _ _), trivial, ?_, hokH, .of_eq hg⟩
    intro b hb'
    cases hb'
  have G := F (hidT s₁.heap H) kinB (nsK hns) tb
  refine codeAny_mono (G.go hr rfl e0 (us := [.ref a]) (vs := [.ref a]) (hbind s₁ (.ref a)) (.cons rfl .nil) (hsp H tabH seqS)) fun res s' fin => ?_
  match res, fin with
  | .error e, fin =>
    obtain ⟨_, _, _, _, _, _, _, _, _, _, _, _, z⟩ := fin
    exact z.elim
  | .ok .next, fin => exact False.elim fin
  | .ok .brk, fin => exact False.elim fin
  | .ok .cont, fin => exact False.elim fin
  | .ok (.ret u), fin =>
    obtain ⟨v, H', os, bare, un, hok', r', rfl⟩ := fin
    obtain rfl : u = Value.bool true := r'
    have grown : ∀ p ∈ cs, ∃ more : Array Value, s'.heap.get? p.2 = some { cls := .none, data := .fields more } := by
      intro p hp
      obtain ⟨more, z⟩ := un.tbls p.2 #[] (tabH p hp)
      exact ⟨_, hok' p.2 _ z⟩
    have same : ∀ b o, b ∉ cs.map (·.2) → s₁.heap.get? b = some o → s'.heap.get? b = some o := by
      intro b o nb e
      rcases at_ b with q | ⟨q, _⟩ | ⟨_, _, q⟩
      · exact un.keep b o e q (fun z => by cases z) (fun z => by cases z)
      · exact absurd q nb
      · have z2 := un.frzs b _ _ q
        obtain ⟨e1, _⟩ := hokH b _ q
        obtain ⟨e2, _⟩ := hok' b _ z2
        rw [e] at e1
        cases e1
        exact e2
    refine ⟨rfl, ⟨fun b o e => ?_, fun b o e => ?_⟩, os, bare⟩
    · by_cases nb : b ∈ cs.map (·.2)
      · obtain ⟨p, hp, rfl⟩ := List.mem_map.mp nb
        obtain ⟨more, hm⟩ := grown p hp
        rw [empty p hp] at e
        cases e
        exact Or.inr (Or.inl ⟨((code p hp).tab (empty p hp)).isCodeTable, rfl, #[], more, rfl, by rw [Array.empty_append]; exact hm⟩)
      · exact Or.inl (same b o nb e)
    · by_cases nb : b ∈ cs.map (·.2)
      · obtain ⟨p, hp, rfl⟩ := List.mem_map.mp nb
        obtain ⟨more, hm⟩ := grown p hp
        exact ⟨_, hm⟩
      · exact ⟨o, same b o nb e⟩
/-- the law from its promise, tables told -/
theorem walk_gT {l : PySem.W.OpenLaw} {n k : Nat} {q : Program} {loose : List Str} {XP : (Str → Option Value) → Heap → Prop} {YP : World → Heap → Prop} {d : DefRec} {x : Str}
    (hn : l.most = some n) (hn2 : n ≤ sizeLine) (hdf : d.params.defaults = []) (hr : Room k callerA)
    (F : ∀ (w : World) (mg : Str → Option Value) (fa : Addr) (h : Heap), YP w h → h.Ns mainGlobals mg → mg d.name = some (.ref fa) →
      ∃ (K : PySem.W.Frag) (fd : FuncData) (sp : Sp) (cs : List (Addr × Addr)), K.In h ∧ (∀ p ∈ cs, h.get? p.2 = some { cls := .none, data := .fields #[] }) ∧ (∀ p ∈ cs, K.lookup p.2 = none) ∧
        (∀ p ∈ cs, PySem.W.CodeHd h p.1 p.2) ∧ (∀ (s : Shared) (u : Value), BindsTo s fd ⟨[u], []⟩ [(x, u)]) ∧
        (∀ (H : Hp) (a : Addr) (ns : List Int), ns.length ≤ n → (∀ p ∈ cs, H p.2 = some (.tbl #[])) → SqL K H a (ns.map V.int) → sp [.ref a] H (fun v _ => v = .bl true) fun _ _ _ => False) ∧
        ∀ base : Heap, K.In base → base.Ns mainGlobals mg → (∀ p ∈ cs, TabB base mg p.1 p.2) → FnG l.prog w K mg base k fa fd [x] sp) :
    PySem.W.WalkO q loose XP YP l.row.toRowW d [] (fun f vs => PySem.call f vs) := by
  refine Att.attach_callB hn hdf fun w s₀ s₁ mg mb fa o pm cd doc a vs ns G Y ho hd hcd hmg hobj hints hlen hbits hg => ?_
  obtain ⟨K, fd, sp, cs, KX, c1, c2, c3, hb, hsp, hF⟩ := F w mg fa _ Y G.T.g hmg
  exact law_gT KX G.T.g G.T.b G.T.builtins G.T.nolimit hg c1 c2 c3 G.T.bmain hobj hints (Nat.le_trans hlen hn2) hr hF hb fun H hN hS => hsp H a ns hlen hN hS
end Cl

/-! LayD: dicts whose keys are tuples: del, comprehensions, dict(pairs); sets of cells as such dicts. -/
namespace Cl
open PySem PySem.Spec
open PyProof.Rows hiding St
open L2

section
variable {X : Cx} {pins : List (Addr × Obj)} {σ : St} {H : Hp} {s : Shared} {a b : Addr} {kvs : List (List Key × V)} {k : List Key}
theorem dropH_eq {xs : List (List Key × Addr × Value)} : DT.dropH xs k = withoutH xs k := rfl
/-- behind a write of the dict at a -/
theorem dt_write {kvs2 : List (List Key × V)} {xs2 : List (List Key × Addr × Value)} {h' : Heap} {t' : Nat} (I : Inv X pins σ H s) (e : H a = some (.dT kvs))
    (sb : Heap.SameBut a s.heap h') (dd : h'.DictOfH (tupleKind (mixKind X.prog X.w)) a xs2) (hd : (a == sysModules) = false) (hl : kvs2.length ≤ sizeLine)
    (rel : KT H kvs2 xs2) : Inv X pins σ (upd H a (.dT kvs2)) { s with heap := h', toks := t' } := by
  obtain ⟨o, es, ep, h1, h2, h3, h4, _, h5⟩ := dd
  refine d_write I (by rw [e]; exact True.intro) sb ⟨o, h1⟩ ⟨hl, hd, xs2, rel.keeps fun c ys ec => ?_, o, es, ep, h1, h2, h3, h4, h5⟩
  rw [upd_ne (ne_of ec e (fun z => nomatch z))]
  exact ec
/-- del d[t] -/
theorem d_delT {A : Around} {E : Value → Shared → Prop} {Q : Unit → Shared → Prop} (hu : A.units + 1 < cLine) (I : Inv X pins σ H s) (e : H a = some (.dT kvs)) (eb : H b = some (.tup (k.map kV)))
    (there : (valV kvs k).isSome = true) (h : ∀ s', Inv X pins σ (upd H a (.dT (dropK kvs k))) s' → Q () s') :
    wpAny (model X.prog X.w) A (delItem (.ref a) (.ref b)) Q E s := by
  obtain ⟨z, hd, xs, rel, dd⟩ := dt_of I.hok e
  have sz : xs.length ≤ sizeLine := by rw [← Paired.length rel]; exact z
  have r := rel.val k
  obtain ⟨v, hv⟩ := Option.isSome_iff_exists.mp there
  rw [hv] at r
  cases ep : atKey xs k with
  | none =>
    rw [ep] at r
    exact (show False from r).elim
  | some p =>
    refine wpAny_delItem_heap (hsz := sz) (tupleKind_room_in1 hu) (key_of I.hok eb) hd dd ep fun h' dd' sb => h _ ?_
    exact dt_write I e sb dd' hd (Nat.le_trans (dropK_le kvs k) z) (L2.DX.KT_drop k rel)
/-- d[t] = v by a comprehension -/
theorem d_setT {E : Value → Shared → Prop} {Q : Unit → Shared → Prop} {v : V} {r : Value} (hu : X.A.units + 1 < cLine) (I : Inv X pins σ H s) (e : H a = some (.dT kvs)) (eb : H b = some (.tup (k.map kV)))
    (hz : kvs.length < sizeLine) (rv : RelV v r) (h : ∀ s', Inv X pins σ (upd H a (.dT (putK kvs k v))) s' → Q () s') :
    wpAny (model X.prog X.w) X.A (dictSet a (.ref b) r) Q E s := by
  obtain ⟨z, hd, xs, rel, dd⟩ := dt_of I.hok e
  have sz : xs.length ≤ sizeLine := by rw [← Paired.length rel]; exact z
  have len := length_putK kvs k v
  refine wpAny_dictSet_heap (hsz := sz) (show X.A.units < cLine by omega) (key_of I.hok eb) dd fun h' dd' sb => h _ ?_
  exact dt_write I e sb dd' hd (by omega) (rel.put k eb rv)
end
/-- the reading of del d[t] -/
def sDDelT (td ty : TE) : TS := fun D σ H => td σ H fun x H1 => ty σ H1 fun y H2 => ∃ (a b : Addr) (kvs : List (List Key × V)) (k : List Key), x = .ref a ∧ y = .ref b ∧ H2 a = some (.dT kvs) ∧
  H2 b = some (.tup (k.map kV)) ∧ (valV kvs k).isSome = true ∧ D.nx σ (upd H2 a (.dT (dropK kvs k)))
theorem ps_ddelT {X : Cx} {o i : Expr} {td ty : TE} {tpos pos : Pos} (hu : X.A.units + 1 < cLine) (ho : PE X o td) (hi : PE X i ty) : PS X (.Delete [.Subscript o i tpos] pos) (sDDelT td ty) := by
  constructor
  intro pins s σ H D I h
  refine wpAny_Delete (wpAny_deleteEach_cons (wpAny_delete_Subscript (thn (ho.run pins s σ H _ I h) ?_)))
  rintro u s1 ⟨x, H1, I1, rx, q1⟩
  refine thn (hi.run pins s1 σ H1 _ I1 q1) ?_
  rintro iv s2 ⟨y, H2, I2, ry, a, b, kvs, k, rfl, rfl, e, eb, l, q2⟩
  obtain rfl : u = Value.ref a := rx
  obtain rfl : iv = Value.ref b := ry
  exact d_delT hu I2 e eb l fun s3 I3 => wpAny_deleteEach_nil ⟨σ, _, I3, q2⟩

/-! ### {t: v for target in iter if ..} -/
section
variable {X : Cx}
/-- the turn's wish: Nx behind it -/
def dcTurn (D : Addr) (tt : TT) (tk tv : TE) (σ2 : St) (Nx : Hp → Prop) (H2 : Hp) : Prop := tt σ2 H2 fun c H3 => if c = true then tk σ2 H3 fun y H4 => tv σ2 H4 fun z H5 =>
  ∃ (kvs : List (List Key × V)) (k : List Key) (b : Addr), y = .ref b ∧ H5 b = some (.tup (k.map kV)) ∧ H5 D = some (.dT kvs) ∧ kvs.length < sizeLine ∧ Nx (upd H5 D (.dT (putK kvs k z))) else Nx H3
def tDcT (wi : TI) (g : TG) (tt : TT) (tk tv : TE) (vs : List Nat) : TE := fun σ H Q => wi σ H fun J H1 => ∀ D, H1 D = none → ∃ W : Nat → Nat → Hp → Prop, (∃ m, W 0 m (upd H1 D (.dT []))) ∧
  ∀ i m H, W i m H → (J.stop i H ∧ Q (.ref D) H) ∨ (J.go i H ∧ ∃ Nx : Hp → Prop, (∀ H', Nx H' → ∃ m', m' < m ∧ W (i + 1) m' H') ∧
    ∀ x H', J.yld i H x H' → g x (wipe σ vs) H' fun σ2 H2 => wipe σ2 vs = wipe σ vs ∧ dcTurn D tt tk tv σ2 Nx H2)
theorem dcT_core {pins : List (Addr × Obj)} {s : Shared} {σ : St} {H : Hp} {Q : VK} {kx vx tg iter : Expr} {ifs : List Expr} {scope : Scope} {own : List (Str × Nat)} {pos pos' : Pos}
    {wi : TI} {g : TG} {tt : TT} {tk tv : TE} {use : Option (Value → Sem Unit)} {Qf : Value → Shared → Prop}
    (hc : X.calm = true) (hu : X.A.units + 1 < cLine) (hN : X.N.Nodup) (I : Inv X pins σ H s) (hi : PI X tg iter wi) (ok : BlkOk X.N X.env.scope scope own)
    (hg : ∀ (s : Shared) (H : Hp) (C : Addr) (cl : List (Str × Addr)) (fp : List Addr), PG (X.blk s H scope (compEnvC scope cl C X.env) fp) tg g)
    (ht : ∀ (s : Shared) (H : Hp) (C : Addr) (cl : List (Str × Addr)) (fp : List Addr), PTs (X.blk s H scope (compEnvC scope cl C X.env) fp) ifs tt)
    (hk : ∀ (s : Shared) (H : Hp) (C : Addr) (cl : List (Str × Addr)) (fp : List Addr), PE (X.blk s H scope (compEnvC scope cl C X.env) fp) kx tk)
    (hv : ∀ (s : Shared) (H : Hp) (C : Addr) (cl : List (Str × Addr)) (fp : List Addr), PE (X.blk s H scope (compEnvC scope cl C X.env) fp) vx tv)
    (hs : ∀ x, foldedSetIterable iter X.env x = pure x) (h : tDcT wi g tt tk tv (own.map (·.2)) σ H Q)
    (fin : ∀ D C s' m H', Inv X pins σ H' s' → Q (.ref D) H' → s'.heap.Ns C m → FpOk X pins H' C → compPost (model X.prog X.w) X.A X.xe use Qf (.ref D) C (.ok .next) s') :
    wpAny (model X.prog X.w) X.A (comprehension (.DictComp kx vx [⟨tg, iter, ifs, 0⟩] scope pos) scope X.env pos' newDict false (eval iter X.env) use) Qf X.xe s := by
  have free : ∀ y ∈ scope.names, y.2 = .free → ∃ c, X.env.cells.lookup y.1 = some c := by
    intro y hy e
    exact (ok.free y hy e).elim (fun z => I.ok.has _ (.inl z)) fun z => I.ok.has _ (.inr z)
  refine wpAny_comprehension_free (use := use) rfl hs (closure_ok free) ok.kind (fun y hy e => by rw [ok.uniq y hy, e]) (thn (hi.run pins s σ H _ I h) fun xv s1 hx => thn hx ?_)
  rintro itv s2 ⟨it, fp, tn, J, H2, rfl, I2, T, st2, f2, q⟩
  refine wpAny_newObj_type (newEnv_comp ?_)
  generalize hD : s2.heap.objs.size = D
  have D_new : H2 D = none := I2.hok.fresh (Nat.le_of_eq hD)
  obtain ⟨W, ⟨m0, w0⟩, turn⟩ := q D D_new
  generalize e3 : ({ s2 with heap := s2.heap.push { cls := .type "dict", data := .dict #[] } } : Shared) = s3
  have I3 : Inv X pins σ (upd H2 D (.dT [])) s3 := by
    subst e3 hD
    exact I2.laid (t' := s2.toks) (fun b o e => Heap.get?_push_of_some _ e) (Nat.le_refl _) (dt_empty s2.heap I2.big)
  have h3 : s3.heap = s2.heap.push { cls := .type "dict", data := .dict #[] } := by rw [← e3]
  have grow3 : ∀ b o, s2.heap.get? b = some o → s3.heap.get? b = some o := fun b o e => by rw [h3]; exact Heap.get?_push_of_some _ e
  have f3 : ∀ b ∈ fp, FpOk X pins (upd H2 D (.dT [])) b ∧ b < s3.heap.objs.size := by
    intro b hb
    obtain ⟨o, e, _⟩ := T.obj _ _ st2 b hb
    refine ⟨⟨?_, (f2 b hb).2⟩, Heap.lt_size (grow3 b o e)⟩
    rw [upd_ne (by rw [← hD]; exact Nat.ne_of_lt (Heap.lt_size e))]
    exact (f2 b hb).1
  have st3 : tn 0 s3.heap := T.keep _ _ _ st2 fun b _ o e => grow3 b o e
  have I4 := block_start I3 ok hN f3
  generalize hH3 : upd H2 D (.dT []) = H3 at I3 I4 w0 f3
  have pg := hg s3 H3 s3.heap.objs.size (cellsFrom (s3.heap.objs.size + 1) scope.names (cloFrom X.env.cells scope.names [])) fp
  have pt := ht s3 H3 s3.heap.objs.size (cellsFrom (s3.heap.objs.size + 1) scope.names (cloFrom X.env.cells scope.names [])) fp
  have pk := hk s3 H3 s3.heap.objs.size (cellsFrom (s3.heap.objs.size + 1) scope.names (cloFrom X.env.cells scope.names [])) fp
  have pv' := hv s3 H3 s3.heap.objs.size (cellsFrom (s3.heap.objs.size + 1) scope.names (cloFrom X.env.cells scope.names [])) fp
  show codeAny _ _ (.compStart (.DictComp kx vx [⟨tg, iter, ifs, 0⟩] scope pos) 0 (.ref it) (.ref D)
    (compEnvC scope (cellsFrom (s3.heap.objs.size + 1) scope.names (cloFrom X.env.cells scope.names [])) s3.heap.objs.size X.env))
    (compPost (model X.prog X.w) X.A X.xe use Qf (.ref D) s3.heap.objs.size) { s3 with heap := pushCells (s3.heap.push { cls := .type "dict", data := .dict #[] }) scope.names }
  generalize ec : compEnvC scope (cellsFrom (s3.heap.objs.size + 1) scope.names (cloFrom X.env.cells scope.names [])) s3.heap.objs.size X.env = ce at I4 pg pt pk pv' ⊢
  have ceL : ce.locals = s3.heap.objs.size := by subst ec; rfl
  generalize e4 : ({ s3 with heap := pushCells (s3.heap.push { cls := .type "dict", data := .dict #[] }) scope.names } : Shared) = s4 at I4 ⊢
  have st4 : tn 0 s4.heap := T.keep _ _ _ st3 fun b _ o e => by subst e4; exact pushCells_keeps _ _ _ _ (Heap.get?_push_of_some _ e)
  have stat : ∀ {σ' : St} {H' : Hp} {s' : Shared}, Inv (X.blk s3 H3 scope ce fp) [] σ' H' s' → (∀ b ∈ fp, H' b = none) → ∀ b ∈ fp, FpOk (X.blk s3 H3 scope ce fp) [] H' b := by
    intro σ' H' s' J' hn b hb
    exact ⟨hn b hb, (J'.ok.exf b hb).1, J'.ok.exfs b hb, .inl hb, fun x c e => (J'.ok.exf b hb).2 x c e, fun p hp => absurd (show p ∈ ([] : List (Addr × Obj)) ++ [] from hp) (by simp)⟩
  have loop : codeAny (model X.prog X.w) X.A (.compLoop (.DictComp kx vx [⟨tg, iter, ifs, 0⟩] scope pos) 0 (.ref it) (.ref D) ce) (compPost (model X.prog X.w) X.A X.xe use Qf (.ref D) s3.heap.objs.size) s4 := by
    refine compLoop_anyD (fun n s' => ∃ i H', Inv (X.blk s3 H3 scope ce fp) [] (wipe σ (own.map (·.2))) H' s' ∧ tn i s'.heap ∧ (∀ b ∈ fp, H' b = none) ∧ W i n H') ?_ m0 ⟨0, H3, I4, st4, fun b hb => (f3 b hb).1.1, w0⟩
    rintro n s5 ⟨i, H5, I5, st5, n5, w5⟩
    rcases turn i n H5 w5 with ⟨stop, told⟩ | ⟨go, Nx, next, step⟩
    · refine thnF (T.done (X.blk s3 H3 scope ce fp) rfl rfl rfl hc i [] s5 _ H5 (fun _ _ => False) I5 (stat I5 n5) st5 stop) ?_
      rintro r s6 ⟨rfl, I6⟩
      have I7 : Inv X pins σ H5 s6 := I3.call' (ch := fp) I6.os I6.base I6.hok I6.bare fun b hb => by
        obtain ⟨_, g1, g2, g3, g4, g5⟩ := (f3 b hb).1
        exact ⟨g3, g1, g4, g5⟩
      have nC : H5 s3.heap.objs.size = none := by rw [← ceL]; exact I6.free
      obtain ⟨m, hn, _⟩ := I6.loc
      exact fin D s3.heap.objs.size s6 m H5 I7 told (by rw [← ceL]; exact hn) (I3.fpOk (Nat.le_refl _) nC)
    · refine thnF (T.item (X.blk s3 H3 scope ce fp) rfl rfl rfl hc i [] s5 _ H5 (fun _ _ => False) I5 (stat I5 n5) st5 go) ?_
      rintro r s6 ⟨u, rfl, h6⟩
      refine thnF h6 ?_
      rintro _ s7 ⟨x, H7, I7, r7, y7, st7, n7⟩
      refine thnF (pg.run _ s7 _ H7 x u _ (I7.pinned (stat I7 n7) (T.obj _ _ st7)) r7 (step x H7 y7)) ?_
      rintro _ s8 ⟨σ8, H8, I8, w8, q8⟩
      refine thnF (pt.run _ s8 σ8 H8 _ I8 q8) ?_
      rintro c s9 ⟨H9, I9, q9⟩
      have back : ∀ {s' : Shared} {H' : Hp}, Inv (X.blk s3 H3 scope ce fp) ([] ++ pinsAt fp s7.heap) σ8 H' s' → Nx H' →
          ∃ m, m < n ∧ ∃ i H', Inv (X.blk s3 H3 scope ce fp) [] (wipe σ (own.map (·.2))) H' s' ∧ tn i s'.heap ∧ (∀ b ∈ fp, H' b = none) ∧ W i m H' := by
        intro s' H' J' nx
        obtain ⟨m', hm, w'⟩ := next H' nx
        have pinned : ∀ b ∈ fp, ∀ o, s7.heap.get? b = some o → s'.heap.get? b = some o ∧ H' b = none := by
          intro b hb o e
          have z := J'.pin (b, o) (List.mem_append_right _ (List.mem_append_right _ (mem_pinsAt hb e)))
          exact ⟨z.1, z.2.1⟩
        refine ⟨m', hm, i + 1, H', (J'.unpinned (pins := [])).weak (by rw [← w8, wipe_length]) (fun j v e => ?_), T.keep _ _ _ st7 fun b hb o e => (pinned b hb o e).1, fun b hb => ?_, w'⟩
        · rw [← w8] at e
          exact (wipe_some e).1
        · obtain ⟨o, e, _⟩ := T.obj _ _ st7 b hb
          exact (pinned b hb o e).2
      cases c with
      | false => exact back I9 q9
      | true =>
        refine thnF (pk.run _ s9 σ8 H9 _ I9 q9) ?_
        rintro z s10 ⟨yk, H10, I10, r10, q10⟩
        refine thnF (pv'.run _ s10 σ8 H10 _ I10 q10) ?_
        rintro z2 s11 ⟨yv, H11, I11, r11, kvs, k, b, rfl, hb, hD11, hz11, nx⟩
        obtain rfl : z = Value.ref b := r10
        exact d_setT (X := X.blk s3 H3 scope ce fp) hu I11 hD11 hb hz11 r11 fun s12 I12 => back I12 nx
  exact codeAny_compStart_dict loop (T.self X.A 0 _ _ _ st4 loop)
theorem pe_dcT {kx vx tg iter : Expr} {ifs : List Expr} {scope : Scope} {own : List (Str × Nat)} {pos : Pos} {wi : TI} {g : TG} {tt : TT} {tk tv : TE}
    (hc : X.calm = true) (hu : X.A.units + 1 < cLine) (hN : X.N.Nodup) (hi : PI X tg iter wi) (ok : BlkOk X.N X.env.scope scope own)
    (hg : ∀ (s : Shared) (H : Hp) (C : Addr) (cl : List (Str × Addr)) (fp : List Addr), PG (X.blk s H scope (compEnvC scope cl C X.env) fp) tg g)
    (ht : ∀ (s : Shared) (H : Hp) (C : Addr) (cl : List (Str × Addr)) (fp : List Addr), PTs (X.blk s H scope (compEnvC scope cl C X.env) fp) ifs tt)
    (hk : ∀ (s : Shared) (H : Hp) (C : Addr) (cl : List (Str × Addr)) (fp : List Addr), PE (X.blk s H scope (compEnvC scope cl C X.env) fp) kx tk)
    (hv : ∀ (s : Shared) (H : Hp) (C : Addr) (cl : List (Str × Addr)) (fp : List Addr), PE (X.blk s H scope (compEnvC scope cl C X.env) fp) vx tv)
    (hs : ∀ x, foldedSetIterable iter X.env x = pure x := by intro _; rfl) :
    PE X (.DictComp kx vx [⟨tg, iter, ifs, 0⟩] scope pos) (tDcT wi g tt tk tv (own.map (·.2))) := by
  constructor
  intro pins s σ H Q I h
  rw [arm_eval_DictComp]
  refine dcT_core hc hu hN I hi ok hg ht hk hv hs h fun D C s' m H' I' q hn f => ⟨m, hn, fun h'' sb => ?_⟩
  obtain ⟨f0, f1, f2, f3, f4, f5⟩ := f
  exact ⟨.ref D, H', I'.turned (t' := s'.toks) (fun b o hb e => (sb.2 b hb).trans e) f0 f1 f3 f4 f5, rfl, q⟩
end
end Cl

/-! LayS: cells (tuples of ints); sorted(xs), sorted(d) of cells: the sorted list is a function of the cells. -/
namespace Cl
open PySem PySem.Spec
open PyProof.Rows hiding St
open L2

/-! ### the order of cells -/
def lexL : List Int → List Int → Bool
  | [], [] => false
  | [], _ :: _ => true
  | _ :: _, [] => false
  | x :: xs, y :: ys => if x = y then lexL xs ys else decide (x < y)
theorem lexL_irr : ∀ c : List Int, lexL c c = false
  | [] => rfl
  | x :: c => by
    show (if x = x then lexL c c else decide (x < x)) = false
    rw [if_pos rfl, lexL_irr c]
theorem lexL_asym : ∀ {a b : List Int}, lexL a b = true → lexL b a = false
  | [], [], h => by cases h
  | [], _ :: _, _ => rfl
  | _ :: _, [], h => by cases h
  | x :: xs, y :: ys, h => by
    have h : (if x = y then lexL xs ys else decide (x < y)) = true := h
    show (if y = x then lexL ys xs else decide (y < x)) = false
    by_cases e : x = y
    · rw [if_pos e] at h
      rw [if_pos e.symm]
      exact lexL_asym h
    · rw [if_neg e] at h
      rw [if_neg (Ne.symm e)]
      have := of_decide_eq_true h
      exact decide_eq_false (by omega)
theorem lexL_tri : ∀ {a b : List Int}, lexL a b = false → lexL b a = false → a = b
  | [], [], _, _ => rfl
  | [], _ :: _, h, _ => by cases h
  | _ :: _, [], _, h => by cases h
  | x :: xs, y :: ys, h, g => by
    have h : (if x = y then lexL xs ys else decide (x < y)) = false := h
    have g : (if y = x then lexL ys xs else decide (y < x)) = false := g
    by_cases e : x = y
    · rw [if_pos e] at h
      rw [if_pos e.symm] at g
      rw [e, lexL_tri h g]
    · rw [if_neg e] at h
      rw [if_neg (Ne.symm e)] at g
      have := of_decide_eq_false h
      have := of_decide_eq_false g
      omega
theorem lexL_tr : ∀ {a b c : List Int}, lexL a b = true → lexL b c = true → lexL a c = true
  | [], _, [], h, g => by
    rename_i b
    cases b with
    | nil => cases h
    | cons y ys => cases g
  | [], _, _ :: _, _, _ => rfl
  | _ :: _, [], _, h, _ => by cases h
  | _ :: _, _ :: _, [], _, g => by cases g
  | x :: xs, y :: ys, z :: zs, h0, g0 => by
    have h : (if x = y then lexL xs ys else decide (x < y)) = true := h0
    have g : (if y = z then lexL ys zs else decide (y < z)) = true := g0
    show (if x = z then lexL xs zs else decide (x < z)) = true
    by_cases e : x = y
    · rw [if_pos e] at h
      by_cases e2 : y = z
      · rw [if_pos e2] at g
        rw [if_pos (e.trans e2)]
        exact lexL_tr h g
      · rw [if_neg e2] at g
        rw [if_neg (fun q => e2 (e.symm.trans q)), e]
        exact g
    · rw [if_neg e] at h
      have h1 := of_decide_eq_true h
      by_cases e2 : y = z
      · rw [if_neg (fun q => e (q.trans e2.symm)), ← e2]
        exact h
      · rw [if_neg e2] at g
        have h2 := of_decide_eq_true g
        rw [if_neg (by omega)]
        exact decide_eq_true (by omega)
/-- not behind: a total order -/
def leL (a b : List Int) : Bool := !lexL b a
theorem leL_total (a b : List Int) : (leL a b || leL b a) = true := by
  unfold leL
  cases h : lexL b a with
  | false => rfl
  | true => rw [lexL_asym h]; rfl
theorem leL_tr (a b c : List Int) (h : leL a b = true) (g : leL b c = true) : leL a c = true := by
  unfold leL at *
  cases q : lexL c a with
  | false => rfl
  | true =>
    have hb : lexL b a = false := by simpa using h
    have gb : lexL c b = false := by simpa using g
    cases r : lexL a b with
    | true => rw [lexL_tr q r] at gb; cases gb
    | false =>
      have e := lexL_tri r hb
      subst e
      rw [q] at gb
      cases gb
theorem leL_anti {a b : List Int} (h : leL a b = true) (g : leL b a = true) : a = b := by
  unfold leL at *
  exact lexL_tri (by simpa using g) (by simpa using h)
/-- the cells in their order -/
def srt (S : List (List Int)) : List (List Int) := S.mergeSort leL
theorem srt_perm (S : List (List Int)) : (srt S).Perm S := List.mergeSort_perm S leL
theorem srt_srt (S : List (List Int)) : (srt S).Pairwise (fun a b => leL a b = true) := List.pairwise_mergeSort leL_tr leL_total S
theorem sorted_uniq : ∀ {A B : List (List Int)}, A.Perm B → A.Pairwise (fun a b => leL a b = true) → B.Pairwise (fun a b => leL a b = true) → A = B
  | [], B, p, _, _ => (List.Perm.eq_nil p.symm).symm
  | a :: A, [], p, _, _ => absurd p.length_eq (by simp)
  | a :: A, b :: B, p, sa, sb => by
    obtain ⟨a1, a2⟩ := List.pairwise_cons.mp sa
    obtain ⟨b1, b2⟩ := List.pairwise_cons.mp sb
    have e : a = b := by
      have ha : a ∈ b :: B := p.mem_iff.mp List.mem_cons_self
      have hb : b ∈ a :: A := p.mem_iff.mpr List.mem_cons_self
      rcases List.mem_cons.mp ha with e | ha
      · exact e
      rcases List.mem_cons.mp hb with e | hb
      · exact e.symm
      exact leL_anti (a1 b hb) (b1 a ha)
    subst e
    rw [sorted_uniq (List.Perm.cons_inv p) a2 b2]
theorem srt_eq {A B : List (List Int)} (p : A.Perm B) (s : A.Pairwise (fun a b => leL a b = true)) : A = srt B := sorted_uniq (p.trans (srt_perm B).symm) s (srt_srt B)
theorem srt_congr {A B : List (List Int)} (p : A.Perm B) : srt A = srt B := srt_eq ((srt_perm A).trans p) (srt_srt A)
theorem mem_srt {S : List (List Int)} {c : List Int} : c ∈ srt S ↔ c ∈ S := (srt_perm S).mem_iff
theorem srt_len (S : List (List Int)) : (srt S).length = S.length := (srt_perm S).length_eq

/-! ### the comparisons of the sort -/
section
variable {prog : Program} {w : World} {A : Around} {E : Value → Shared → Prop} {s : Shared} {Q : Bool → Shared → Prop}
theorem katL {b fin : Bool} {xs ys : List Value} {ns ms : List Int} (i : Nat) (hx : IntsAre xs ns) (hy : IntsAre ys ms) (hf : fin = decide (ns.length < ms.length))
    (h : Q (lexL ns ms) s) : PySem.W.KatLex prog w A b fin Q (xs.zip ys) i s := by
  induction hx generalizing ys ms i with
  | nil =>
    cases hy with
    | nil =>
      rw [hf]
      exact PySem.W.kat_nil h
    | cons q u hy =>
      rw [hf]
      refine PySem.W.kat_nil ?_
      simpa [lexL] using h
  | @cons p t xs ns hx ih =>
    cases hy with
    | nil =>
      rw [hf]
      refine PySem.W.kat_nil ?_
      simpa [lexL] using h
    | @cons q u ys ms hy =>
      show PySem.W.KatLex prog w A b fin Q ((Value.int p t, Value.int q u) :: xs.zip ys) i s
      have h : Q (if p = q then lexL ns ms else decide (p < q)) s := h
      refine PySem.W.kat_cons (wpAny_eqBool_int ?_)
      by_cases e : p = q
      · rw [if_pos e] at h
        rw [show (p == q) = true from beq_iff_eq.mpr e]
        refine PySem.W.kat_yes ?_
        have hf' : fin = decide (ns.length < ms.length) := by
          rw [hf, List.length_cons, List.length_cons]
          exact decide_eq_decide.mpr (by omega)
        first
          | exact ih (i + 1) hy hf' h
          | exact ih _ _ (i + 1) hy hf' h
      · rw [if_neg e] at h
        rw [show (p == q) = false from beq_eq_false_iff_ne.mpr e]
        exact PySem.W.kat_no (TS.oneLt_ints _ h)
end
theorem swoL (k : Value → List Int) : SrtO.Swo fun v u => lexL (k v) (k u) := by
  refine ⟨fun x y h => lexL_asym h, fun x y z h1 h2 => ?_⟩
  cases q : lexL (k z) (k x) with
  | false => rfl
  | true =>
    cases r : lexL (k x) (k y) with
    | true => rw [lexL_tr q r] at h2; cases h2
    | false =>
      have e := lexL_tri r h1
      rw [e] at q
      rw [q] at h2
      cases h2
/-- the values are tuples of the ints that k tells, none of them empty -/
def CellsIn (h : Heap) (k : Value → List Int) (vs : List Value) : Prop := ∀ v ∈ vs, TS.TupInts h v (k v) ∧ k v ≠ []
theorem CellsIn.keeps {h h' : Heap} {k : Value → List Int} {vs : List Value} (c : CellsIn h k vs) (kp : ∀ b o, h.get? b = some o → o.cls = .type "tuple" → h'.get? b = some o) : CellsIn h' k vs :=
  fun v hv => ⟨(c v hv).1.keeps kp, (c v hv).2⟩
theorem cells_first {h : Heap} {k : Value → List Int} : ∀ vs : List Value, CellsIn h k vs → ∃ fs, PySem.W.KatTups h vs fs ∧ fs.length = vs.length ∧ ∀ f ∈ fs, ∃ n t, f = Value.int n t
  | [], _ => ⟨[], PySem.W.KatTups.nil, rfl, fun f hf => by cases hf⟩
  | v :: vs, c => by
    obtain ⟨fs, kt, hl, hi⟩ := cells_first vs fun u hu => c u (List.mem_cons_of_mem _ hu)
    obtain ⟨⟨a, xs, ev, ⟨o, ho, hc, n, hdt⟩, i⟩, ne⟩ := c v List.mem_cons_self
    subst ev
    cases e : xs.toList with
    | nil =>
      rw [e] at i
      have l := i.length
      rw [List.length_nil] at l
      exact absurd (List.length_eq_zero_iff.mp (by omega)) ne
    | cons y ys =>
      obtain ⟨m, t, hy⟩ := i.all y (by rw [e]; exact List.mem_cons_self ..)
      refine ⟨y :: fs, PySem.W.KatTups.cons ho hc hdt ?_ kt, by rw [List.length_cons, List.length_cons, hl], ?_⟩
      · have z := congrArg (fun l : List Value => l[0]?) e
        simpa using z
      · intro f hf
        rcases List.mem_cons.mp hf with rfl | hf
        · exact ⟨m, t, hy⟩
        · exact hi f hf
section
variable {prog : Program} {w : World} {A : Around} {E : Value → Shared → Prop} {s : Shared}
theorem cells_cmp {vs : List Value} {k : Value → List Int} (c : CellsIn s.heap k vs) : SrtO.Cmp prog w A s (tuples' true) (fun p => p.1 ∈ vs) (SrtO.lt2 fun v u => lexL (k v) (k u)) := by
  intro p q hp hq
  obtain ⟨⟨a, xs, e1, ⟨o, ho, hc, n, hdt⟩, i⟩, _⟩ := c _ hp
  obtain ⟨⟨a', ys, e2, ⟨o', ho', hc', n', hdt'⟩, i'⟩, _⟩ := c _ hq
  show wpAny (model prog w) A (keyLt' (tuples' true) p.1 q.1) (fun r s' => s' = s ∧ r = lexL (k p.1) (k q.1)) (fun _ _ => False) s
  generalize k p.1 = ns at i
  generalize k q.1 = ms at i'
  rw [e1, e2]
  refine PySem.W.kat_lt ho hdt ho' hdt' (katL 0 i i' ?_ ⟨rfl, rfl⟩)
  have l1 := i.length
  have l2 := i'.length
  rw [Array.length_toList] at l1 l2
  exact decide_eq_decide.mpr (by omega)
theorem cells_sortable {a : Addr} {vs : List Value} {k : Value → List Int} (h0 : 0 < vs.length) (c : CellsIn s.heap k vs) (ha : ∀ o, s.heap.get? a = some o → o.cls ≠ .type "tuple") :
    SrtO.SortableO prog w A s a vs fun v u => lexL (k v) (k u) := by
  intro h' keep
  have c' : CellsIn h' k vs := c.keeps fun b o e z => keep b o (fun q => by subst q; exact ha o e z) e
  obtain ⟨fs, h1, h2, h3⟩ := cells_first vs c'
  refine ⟨tuples' true, fun Q E hq => ?_, cells_cmp c'⟩
  refine PySem.W.kat_kind (T := .type "int") h1 (by omega) (fun f hm => ?_) (by rfl) ?_
  · obtain ⟨x, t, rfl⟩ := h3 f hm
    exact PySem.W.Looks.now
  · rw [show (Value.type "int" != Value.type "tuple") = true by decide +kernel]
    exact hq
/-- what the sort leaves is the cells' sorted list -/
theorem out_cells {k : Value → List Int} {out vs : List Value} (h1 : SrtO.Srtd (fun v u => lexL (k v) (k u)) out) (h2 : SrtO.Stb (fun v u => lexL (k v) (k u)) out vs) : out.map k = srt (vs.map k) := by
  refine srt_eq (h2.perm.map k) (List.pairwise_map.mpr (List.Pairwise.imp (fun {x y} h => ?_) h1))
  show (!lexL (k y) (k x)) = true
  rw [show lexL (k y) (k x) = false from h]
  rfl
/-- sorted(v) of whatever collects to such values -/
theorem sorted_any {v : Value} {us : List Value} {k : Value → List Int} {Q : Value → Shared → Prop} (hz : us.length ≤ sizeLine) (c : CellsIn s.heap k us)
    (coll : ∀ (R : List Value → Shared → Prop), (∀ (h' : Heap) (tk : Nat), (∀ b o, s.heap.get? b = some o → h'.get? b = some o) → s.heap.objs.size ≤ h'.objs.size → R us { s with heap := h', toks := tk }) →
      wpAny (model prog w) A.in1 (collect v) R E s)
    (h : ∀ (h' : Heap) (tk : Nat) (d : Addr) (out : List Value), out.map k = srt (us.map k) → out.Perm us → (∀ b o, s.heap.get? b = some o → h'.get? b = some o) → s.heap.objs.size ≤ d →
      (∃ n, h'.get? d = some (seqObj "list" out.toArray n)) → Q (.ref d) { s with heap := h', toks := tk }) :
    wpAny (model prog w) A (call (.builtin "sorted") [v]) Q E s := by
  refine Calls.call_function_entry kind_sorted plain_sorted entry_sorted (args_sorted1 _) ?_
  unfold Builtin.«sorted»
  refine wpAny_bind (m := checkCount "sorted" 1 1 _) (wpAny_pure ?_)
  refine wpAny_bind (coll _ fun h' tk keep sz => ?_)
  refine wpAny_bind (wpAny_newList ?_ hz)
  have top : (h'.push (seqObj "list" us.toArray 0)).get? h'.objs.size = some (seqObj "list" us.toArray 0) := Heap.get?_push_size _ rfl
  have kp : ∀ b o, s.heap.get? b = some o → b ≠ h'.objs.size ∧ (h'.push (seqObj "list" us.toArray 0)).get? b = some o := fun b o e =>
    ⟨Nat.ne_of_lt (Heap.lt_size (keep b o e)), Heap.get?_push_of_some _ (keep b o e)⟩
  have c2 : CellsIn (h'.push (seqObj "list" us.toArray 0)) k us := c.keeps fun b o e _ => (kp b o e).2
  show wpAny _ _ _ _ _ { s with heap := h'.push (seqObj "list" us.toArray 0), toks := tk }
  generalize h'.push (seqObj "list" us.toArray 0) = h2 at top kp c2
  generalize h'.objs.size = d at sz top kp
  refine wpAny_bind (wpAny_holding (wpAny_call_entry slot_list_sort ⟨_, top, rfl⟩ entry_list_sort
    (SrtO.list_sort_ord (s := { s with heap := h2, toks := tk }) (swoL k) top hz (fun l2 => cells_sortable (by omega) c2 fun o e z => ?_) fun out hs hb => ⟨_, rfl, ?_⟩) (args_list_sort _)))
  · rw [show h2.get? d = some o from e] at top
    cases top
    exact absurd (Value.type.inj z) (by decide)
  · refine wpAny_pure ⟨_, rfl, ?_⟩
    exact h _ tk d out (out_cells hs hb) hb.perm (fun b o e => (PyProof.Rows.sortedHeap_old (kp b o e).1 (Heap.lt_size (kp b o e).2)).trans (kp b o e).2) sz (PyProof.Rows.sortedHeap_at top)
/-- what collect makes of such a source -/
theorem kdl_collect {T : String} {r d : Addr} {n : Nat} {P : Nat → Value → Prop} {OK : Heap → Prop} {R : List Value → Shared → Prop} (K : PySem.W.KdlSrc prog w T r d n P OK)
    (hh : A.handled = none) (hok : OK s.heap) (hn : n ≤ sizeLine)
    (h : ∀ (h' : Heap) (tk : Nat) (acc : Array Value), (∀ b o, s.heap.get? b = some o → h'.get? b = some o) → s.heap.objs.size ≤ h'.objs.size → ItemsOf P acc n → R acc.toList { s with heap := h', toks := tk }) :
    wpAny (model prog w) A (collect (.ref r)) R E s := by
  obtain ⟨lr, ld⟩ := K.there _ hok
  unfold collect
  refine wpAny_bind (wpAny_runValue (codeAny_builtin entry_proto_collect' ?_))
  rw [Around.under_plainId PySem.F.plain_proto_collect _]
  show wpAny _ A.in1 (newList [] >>= fun l => again (.builtin "list.__iadd__" ⟨[l, .ref r], []⟩)) _ _ s
  refine wpAny_bind (wpAny_newObj_type ?_)
  refine wpAny_pure ⟨plainId_quiet PySem.F.plain_list_iadd _, codeAny_builtin entry_list_iadd' ?_⟩
  rw [Around.under_plainId PySem.F.plain_list_iadd _]
  have at0 : (s.heap.push { cls := .type "list", data := .seq ([] : List Value).toArray }).get? s.heap.objs.size = some { cls := .type "list", data := .seq #[] } := Heap.get?_push_size _ rfl
  show wpAny _ A.in1 (Builtin.List.listExtendWith (.ref s.heap.objs.size) (.ref r) (.ref s.heap.objs.size)) _ _ _
  have run := PySem.W.kdl_extend (A := A) (s := { s with heap := s.heap.push { cls := .type "list", data := .seq ([] : List Value).toArray } }) K hh
    (R := fun (q : Result) (s' : Shared) => q = .ok (.ret (.ref s.heap.objs.size)) ∧ ∃ (h' : Heap) (tk : Nat) (acc : Array Value) (c' : Nat), s' = { s with heap := h', toks := tk } ∧
      (∀ b o, s.heap.get? b = some o → h'.get? b = some o) ∧ h'.get? s.heap.objs.size = some { cls := .type "list", dict := none, data := .seq acc c', slots := #[] } ∧ ItemsOf P acc n)
    (K.keep _ _ hok fun b _ o e => Heap.get?_push_of_some _ e) s.heap.objs.size (Nat.ne_of_gt lr) (Nat.ne_of_gt ld) (.ref s.heap.objs.size) 0 at0
    (fun h' tk acc c' k e it => ⟨rfl, h', tk, acc, c', rfl, fun b o z => k b o (Nat.ne_of_lt (Heap.lt_size z)) (Heap.get?_push_of_some _ z), e, it⟩) hn
  refine wpAny_mono run (fun fin s' x => ?_) fun e s' x => ?_
  · cases fin with
    | done f =>
      obtain ⟨e, h', tk, acc, c', rfl, k, at1, it⟩ := x
      cases e
      show wpAny _ A (load s.heap.objs.size >>= _) _ _ _
      exact wpAny_bind (wpAny_load at1 (wpAny_pure (h h' tk acc k (Nat.le_of_lt (Heap.lt_size at1)) it)))
    | again c₁ =>
      refine ⟨x.1, codeAny_mono x.2 fun q s₂ y => ?_⟩
      obtain ⟨rfl, h', tk, acc, c', rfl, k, at1, it⟩ := y
      show wpAny _ A (load s.heap.objs.size >>= _) _ _ _
      exact wpAny_bind (wpAny_load at1 (wpAny_pure (h h' tk acc k (Nat.le_of_lt (Heap.lt_size at1)) it)))
  · obtain ⟨e', _⟩ := x
    cases e'
end

/-! ### cells as data -/
abbrev ceD (c : List Int) : PyData := .tuple (c.map PyData.int)
theorem Dt.cell {H : Hp} {v : V} {c : List Int} (h : Dt H v (ceD c)) : ∃ t, v = .ref t ∧ H t = some (.tup (c.map V.int)) := by
  cases h with
  | @tup a xs _ e ha =>
    rw [ha.intsV] at e
    exact ⟨a, rfl, e⟩
theorem cell_dt {H : Hp} {t : Addr} {c : List Int} (h : H t = some (.tup (c.map V.int))) : Dt H (.ref t) (ceD c) := .tup h (DtAll.ints c)
section
variable {X : Cx} {pins : List (Addr × Obj)} {σ : St} {H : Hp} {s : Shared}
/-- the values of cells: the heap tells them -/
theorem cells_vals (I : Inv X pins σ H s) : ∀ {cs : List (List Int)} {xs : List V} {us : List Value}, DtAll H xs (cs.map ceD) → Vals xs us → (∀ c ∈ cs, c ≠ []) →
    us.map (TS.intsOf s.heap) = cs ∧ CellsIn s.heap (TS.intsOf s.heap) us ∧ ∀ u ∈ us, Dt H (bkV u) (ceD (TS.intsOf s.heap u)) ∧ ∃ a, u = Value.ref a
  | [], _, _, h, r, _ => by
    cases h
    cases r
    exact ⟨rfl, (fun v hv => by cases hv), (fun v hv => by cases hv)⟩
  | c :: cs, _, _, h, r, n => by
    cases h with
    | cons h1 h2 =>
      cases r with
      | cons r1 r2 =>
        obtain ⟨i1, i2, i3⟩ := cells_vals I h2 r2 fun c hc => n c (List.mem_cons_of_mem _ hc)
        obtain ⟨t, rfl, e⟩ := h1.cell
        cases r1
        have ti := tupI_raw I (SqT.of (K := X.K) e)
        have ei := ti.ints
        refine ⟨by rw [List.map_cons, ei, i1], fun v hv => ?_, fun v hv => ?_⟩
        · rcases List.mem_cons.mp hv with rfl | hv
          · rw [ei]
            exact ⟨ti, n c List.mem_cons_self⟩
          · exact i2 v hv
        · rcases List.mem_cons.mp hv with rfl | hv
          · rw [ei]
            exact ⟨h1, t, rfl⟩
          · exact i3 v hv
theorem dtall_map {H : Hp} {us : List Value} {k : Value → List Int} (h : ∀ u ∈ us, Dt H (bkV u) (ceD (k u))) : DtAll H (us.map bkV) ((us.map k).map ceD) := by
  induction us with
  | nil => exact .nil
  | cons u us ih => exact .cons (h u List.mem_cons_self) (ih fun v hv => h v (List.mem_cons_of_mem _ hv))
/-- behind the sort -/
theorem sorted_end {Q : VK} {us : List Value} {cs : List (List Int)} {h' : Heap} {tk : Nat} {d : Addr} {out : List Value} (I : Inv X pins σ H s)
    (v1 : us.map (TS.intsOf s.heap) = cs) (v3 : ∀ u ∈ us, Dt H (bkV u) (ceD (TS.intsOf s.heap u)) ∧ ∃ a, u = Value.ref a) (hz : us.length ≤ sizeLine)
    (e : out.map (TS.intsOf s.heap) = srt (us.map (TS.intsOf s.heap))) (pm : out.Perm us) (kp : ∀ b o, s.heap.get? b = some o → h'.get? b = some o) (le : s.heap.objs.size ≤ d)
    (at_ : ∃ n, h'.get? d = some (seqObj "list" out.toArray n))
    (q : ∀ (p : Addr) (ys : List V), H p = none → DtAll H ys ((srt cs).map ceD) → Q (.ref p) (upd H p (.lst ys))) : EP X pins σ Q (.ref d) { s with heap := h', toks := tk } := by
  obtain ⟨n, hn⟩ := at_
  have hd : H d = none := I.hok.fresh le
  have all : ∀ u ∈ out, Dt H (bkV u) (ceD (TS.intsOf s.heap u)) ∧ ∃ a, u = Value.ref a := fun u hu => v3 u (pm.mem_iff.mp hu)
  have len : (out.map bkV).length ≤ sizeLine := by rw [List.length_map, pm.length_eq]; exact hz
  refine ⟨.ref d, upd H d (.lst (out.map bkV)), I.laid (t' := tk) kp le ⟨len, out, n, bkV_vals fun u hu => (all u hu).2, hn⟩, rfl, q d _ hd ?_⟩
  rw [← v1, ← e]
  exact dtall_map fun u hu => (all u hu).1
/-- sorted(xs), xs a list of cells -/
def rSrtL : List V → Hp → VK → Prop := fun vs H Q => ∃ (a : Addr) (xs : List V) (cs : List (List Int)), vs = [.ref a] ∧ H a = some (.lst xs) ∧ DtAll H xs (cs.map ceD) ∧ (∀ c ∈ cs, c ≠ []) ∧
  ∀ (p : Addr) (ys : List V), H p = none → DtAll H ys ((srt cs).map ceD) → Q (.ref p) (upd H p (.lst ys))
theorem cr_srtL : CallR X (.builtin "sorted") rSrtL := by
  intro pins s σ H vs us Q I r h
  obtain ⟨a, xs, cs, rfl, ha, hx, ne, q⟩ := h
  obtain ⟨its, rv, hl, hz⟩ := I.list (SqL.of (K := X.K) ha)
  rw [Vals.ref1 r]
  obtain ⟨v1, v2, v3⟩ := cells_vals I hx rv ne
  have hz' : its.length ≤ sizeLine := by rw [← rv.length]; exact hz
  refine sorted_any (k := TS.intsOf s.heap) hz' v2 (fun R hR => collect_list hl.isList ?_ hz') fun h' tk d out e pm kp le at_ => sorted_end I v1 v3 hz' e pm kp le at_ q
  have ho : (s.heap.push (seqObj "list" #[] 0)).get? s.heap.objs.size = some (seqObj "list" #[] 0) := Heap.get?_push_size _ rfl
  refine hR _ s.toks (fun b o e => ?_) ?_
  · rw [Heap.get?_update_ne _ _ _ _ (Nat.ne_of_lt (Heap.lt_size e))]
    exact Heap.get?_push_of_some _ e
  · rw [Heap.size_update, size_push']
    omega
end

/-! ### sets of cells as dicts -/
def cK (c : List Int) : List Key := c.map Sum.inl
theorem cK_v (c : List Int) : (cK c).map kV = c.map V.int := by
  unfold cK
  rw [List.map_map]
  rfl
theorem cK_inj {a b : List Int} (h : cK a = cK b) : a = b := by
  unfold cK at h
  induction a generalizing b with
  | nil =>
    cases b with
    | nil => rfl
    | cons y b => simp at h
  | cons x a ih =>
    cases b with
    | nil => simp at h
    | cons y b =>
      simp only [List.map_cons, List.cons.injEq, Sum.inl.injEq] at h
      rw [h.1, ih h.2]
abbrev cdE (S : List (List Int)) : List (List Key × V) := S.map fun c => (cK c, V.bl true)
def addC (S : List (List Int)) (c : List Int) : List (List Int) := if c ∈ S then S else S ++ [c]
theorem val_cd (S : List (List Int)) (c : List Int) : valV (cdE S) (cK c) = if c ∈ S then some (.bl true) else none := by
  induction S with
  | nil => rfl
  | cons d S ih =>
    by_cases e : d = c
    · subst e
      rw [if_pos List.mem_cons_self]
      exact valV_pos rfl
    · show valV ((cK d, V.bl true) :: cdE S) (cK c) = _
      rw [valV_neg (fun z => e (cK_inj z)), ih]
      by_cases m : c ∈ S
      · rw [if_pos m, if_pos (List.mem_cons_of_mem _ m)]
      · rw [if_neg m, if_neg (fun z => by rcases List.mem_cons.mp z with z | z; exact e z.symm; exact m z)]
theorem put_cd (S : List (List Int)) (c : List Int) : putK (cdE S) (cK c) (.bl true) = cdE (addC S c) := by
  unfold putK addC
  by_cases m : c ∈ S
  · rw [if_pos m, if_pos]
    · conv => rhs; rw [← List.map_id (cdE S)]
      refine List.map_congr_left fun x hx => ?_
      obtain ⟨d, _, rfl⟩ := List.mem_map.mp hx
      by_cases e : (cK d, V.bl true).1 = cK c
      · rw [if_pos e]; rfl
      · rw [if_neg e]; rfl
    · rw [List.any_eq_true]
      exact ⟨_, List.mem_map.mpr ⟨c, m, rfl⟩, decide_eq_true rfl⟩
  · rw [if_neg m, if_neg]
    · exact (List.map_append (f := fun c => (cK c, V.bl true)) (l₁ := S) (l₂ := [c])).symm
    · intro z
      obtain ⟨x, hx, e⟩ := List.any_eq_true.mp z
      obtain ⟨d, hd, rfl⟩ := List.mem_map.mp hx
      have := cK_inj (of_decide_eq_true e)
      rw [this] at hd
      exact m hd
theorem drop_cd (S : List (List Int)) (c : List Int) : dropK (cdE S) (cK c) = cdE (S.filter fun d => decide (d ≠ c)) := by
  unfold dropK
  rw [List.filter_map]
  refine congrArg _ (List.filter_congr fun d _ => ?_)
  show decide (cK d ≠ cK c) = decide (d ≠ c)
  exact decide_eq_decide.mpr ⟨fun h z => h (by rw [z]), fun h z => h (cK_inj z)⟩
theorem keys_dt {H : Hp} : ∀ {S : List (List Int)} {bs : List Addr}, IsKeys H (cdE S) bs → DtAll H (bs.map V.ref) (S.map ceD)
  | [], _, h => by
    cases h
    exact .nil
  | c :: S, _, h => by
    cases h with
    | cons h1 h2 =>
      rw [show ((cK c, V.bl true) : List Key × V).1.map kV = c.map V.int from cK_v c] at h1
      exact .cons (cell_dt h1) (keys_dt h2)
section
variable {X : Cx}
/-- sorted(d), d a set of cells -/
def rSrtD : List V → Hp → VK → Prop := fun vs H Q => ∃ (a : Addr) (S : List (List Int)), vs = [.ref a] ∧ H a = some (.dT (cdE S)) ∧ (∀ c ∈ S, c ≠ []) ∧
  ∀ (p : Addr) (ys : List V), H p = none → DtAll H ys ((srt S).map ceD) → Q (.ref p) (upd H p (.lst ys))
theorem cr_srtD (hc : X.calm = true) : CallR X (.builtin "sorted") rSrtD := by
  intro pins s σ H vs us Q I r h
  obtain ⟨a, S, rfl, ha, ne, q⟩ := h
  rw [Vals.ref1 r]
  obtain ⟨z, lo, ks, pr, o, es, ep, ho, hx, hdt, he, hn⟩ := (show ObjOk X.prog X.w H s.heap a (.dT (cdE S)) from I.hok a _ ha)
  have l1 : es.size = ks.length := size_of_entries he
  have l2 : (cdE S).length = ks.length := Paired.length pr
  have hh : X.A.handled = none := I.ok.hd hc
  have dts := keys_dt (isKeys_of pr)
  obtain ⟨v1, v2, v3⟩ := cells_vals I dts (vals_refs _) ne
  have hz' : ((ks.map fun x => x.2.1).map Value.ref).length ≤ sizeLine := by
    rw [List.length_map, List.length_map]
    omega
  refine sorted_any (k := TS.intsOf s.heap) hz' v2 (fun R hR => ?_) fun h' tk d out e pm kp le at_ => sorted_end I v1 v3 hz' e pm kp le at_ q
  refine kdl_collect (A := X.A.in1) (kdl_raw lo hx hdt) hh ho (by omega) fun h' tk acc kp le it => ?_
  have ea : acc.toList = (ks.map fun x => x.2.1).map Value.ref := by
    have hl : acc.toList.length = ks.length := by rw [Array.length_toList, it.1]; exact l1
    apply List.ext_getElem?
    intro j
    rw [List.getElem?_map, List.getElem?_map]
    cases hj : acc.toList[j]? with
    | none =>
      have h1 := List.getElem?_eq_none_iff.mp hj
      rw [List.getElem?_eq_none (by omega)]
      rfl
    | some v =>
      obtain ⟨en, hen, hv⟩ := it.2 j v (by rw [← Array.getElem?_toList]; exact hj)
      have qe := entry_at he j
      rw [hen] at qe
      cases hb : ks[j]? with
      | none =>
        rw [hb] at qe
        exact nomatch (show some en = none from qe)
      | some b =>
        rw [hb] at qe
        have e2 : en = entryOfKey (tupleKind (mixKind X.prog X.w)) b := Option.some.inj qe
        rw [hv, e2]
        rfl
  rw [ea]
  exact hR h' tk kp le
/-- list(d), d a set of cells -/
def rLstD : List V → Hp → VK → Prop := fun vs H Q => ∃ (a : Addr) (S : List (List Int)), vs = [.ref a] ∧ H a = some (.dT (cdE S)) ∧
  ∀ (p : Addr) (ys : List V), H p = none → DtAll H ys (S.map ceD) → Q (.ref p) (upd H p (.lst ys))
theorem cr_lstD (hc : X.calm = true) : CallR X (.type "list") rLstD := by
  intro pins s σ H xs us Q I r h
  obtain ⟨a, S, rfl, ha, q⟩ := h
  exact call_list_dT hc pins s σ H [.ref a] us Q I r ⟨a, cdE S, rfl, .inl ha, fun p bs hp hk => q p _ hp (keys_dt hk)⟩
end
end Cl

/-! LayP: dict(pairs) with cells as keys; a set of cells as a dict comprehension; lists and tuples walked alike. -/
namespace Cl
open PySem PySem.Spec
open PyProof.Rows hiding St
open L2

/-- the cells of a list, each once -/
def once (S : List (List Int)) : List (List Int) := S.foldl addC []
theorem mem_addC {S : List (List Int)} {c d : List Int} : d ∈ addC S c ↔ d ∈ S ∨ d = c := by
  unfold addC
  by_cases m : c ∈ S
  · rw [if_pos m]
    exact ⟨Or.inl, fun h => h.elim id fun e => by rw [e]; exact m⟩
  · rw [if_neg m, List.mem_append, List.mem_singleton]
theorem addC_nodup {S : List (List Int)} {c : List Int} (h : S.Nodup) : (addC S c).Nodup := by
  unfold addC
  by_cases m : c ∈ S
  · rw [if_pos m]; exact h
  · rw [if_neg m]
    refine List.nodup_append.mpr ⟨h, by simp, fun a ha b hb e => ?_⟩
    rw [List.mem_singleton.mp hb] at e
    rw [e] at ha
    exact m ha
theorem addC_len (S : List (List Int)) (c : List Int) : (addC S c).length ≤ S.length + 1 := by
  unfold addC
  by_cases m : c ∈ S
  · rw [if_pos m]; omega
  · rw [if_neg m, List.length_append]; exact Nat.le_refl _
theorem foldC_mem {L S : List (List Int)} {d : List Int} : d ∈ L.foldl addC S ↔ d ∈ S ∨ d ∈ L := by
  induction L generalizing S with
  | nil => simp
  | cons c L ih =>
    rw [List.foldl_cons, ih, mem_addC, List.mem_cons, or_assoc]
theorem foldC_nodup {L S : List (List Int)} (h : S.Nodup) : (L.foldl addC S).Nodup := by
  induction L generalizing S with
  | nil => exact h
  | cons c L ih => exact ih (addC_nodup h)
theorem foldC_len (L S : List (List Int)) : (L.foldl addC S).length ≤ S.length + L.length := by
  induction L generalizing S with
  | nil => simp
  | cons c L ih =>
    have h1 := ih (addC S c)
    have h2 := addC_len S c
    rw [List.foldl_cons, List.length_cons]
    omega
theorem mem_once {L : List (List Int)} {d : List Int} : d ∈ once L ↔ d ∈ L := by
  unfold once
  rw [foldC_mem]
  simp
theorem once_nodup (L : List (List Int)) : (once L).Nodup := foldC_nodup List.nodup_nil
theorem once_len (L : List (List Int)) : (once L).length ≤ L.length := by
  have := foldC_len L []
  unfold once
  simpa using this
theorem foldC_snoc (L S : List (List Int)) (c : List Int) : (L ++ [c]).foldl addC S = addC (L.foldl addC S) c := by rw [List.foldl_append]; rfl

theorem refs_of {α : Type} {f : α → Addr} : ∀ {L : List α} {us : List Value}, Vals (L.map fun p => V.ref (f p)) us → us = L.map fun p => Value.ref (f p)
  | [], _, r => by cases r; rfl
  | p :: L, _, r => by
    cases r with
    | cons r1 r2 =>
      cases r1
      rw [refs_of r2]
      rfl
section
variable {X : Cx}
/-- (cell, True) -/
abbrev pairD (c : List Int) : PyData := .tuple [ceD c, .bool true]
/-- the pairs of a list, told by their addresses -/
def PL (H : Hp) (L : List (Addr × Addr × List Int)) (xs : List V) (cs : List (List Int)) : Prop := xs = L.map (fun p => V.ref p.1) ∧ cs = L.map (·.2.2) ∧
  ∀ p ∈ L, H p.1 = some (.tup [.ref p.2.1, .bl true]) ∧ H p.2.1 = some (.tup (p.2.2.map V.int))
theorem pl_of {H : Hp} : ∀ {cs : List (List Int)} {xs : List V}, DtAll H xs (cs.map pairD) → ∃ L, PL H L xs cs
  | [], _, h => by
    cases h
    exact ⟨[], rfl, rfl, fun p hp => by cases hp⟩
  | c :: cs, _, h => by
    cases h with
    | cons h1 h2 =>
      obtain ⟨L, rfl, e2, e3⟩ := pl_of h2
      cases h1 with
      | @tup T ys _ hT ha =>
        cases ha with
        | cons a1 a2 =>
          cases a2 with
          | cons b1 b2 =>
            cases b2
            cases b1
            obtain ⟨b, rfl, hb⟩ := a1.cell
            refine ⟨(T, b, c) :: L, rfl, by rw [e2]; rfl, fun p hp => ?_⟩
            rcases List.mem_cons.mp hp with rfl | hp
            · exact ⟨hT, hb⟩
            · exact e3 p hp
def rDictP : List V → Hp → VK → Prop := fun vs H Q => ∃ (a : Addr) (xs : List V) (cs : List (List Int)), vs = [.ref a] ∧ H a = some (.lst xs) ∧ DtAll H xs (cs.map pairD) ∧
  ∀ p, H p = none → Q (.ref p) (upd H p (.dT (cdE (once cs))))
theorem kt_all {H : Hp} : ∀ (L : List (Addr × Addr × List Int)) (S : List (List Int)) (ks : List (List Key × Addr × Value)), (∀ p ∈ L, H p.2.1 = some (.tup (p.2.2.map V.int))) → KT H (cdE S) ks →
    KT H (cdE ((L.map (·.2.2)).foldl addC S)) (storedAllH ks (L.map fun p => (cK p.2.2, p.2.1, Value.bool true)))
  | [], S, ks, _, h => h
  | p :: L, S, ks, hL, h => by
    have h1 := h.put (cK p.2.2) (b := p.2.1) (y := .bl true) (u := .bool true) (by rw [cK_v]; exact hL p List.mem_cons_self) rfl
    rw [put_cd] at h1
    exact kt_all L _ _ (fun q hq => hL q (List.mem_cons_of_mem _ hq)) h1
theorem cr_dictP (hc : X.calm = true) (hu : X.A.units + 64 < cLine) : CallR X (.type "dict") rDictP := by
  intro pins s σ H vs us Q I r h
  obtain ⟨a, xs, cs, rfl, ha, hx, q⟩ := h
  obtain ⟨L, rfl, rfl, hL⟩ := pl_of hx
  obtain ⟨its, rv, ⟨o, n, ho, hcl, hdi, hdt⟩, hz⟩ := I.list (SqL.of (K := X.K) ha)
  rw [Vals.ref1 r]
  have hits : its = L.map fun p => Value.ref p.1 := refs_of rv
  have len : its.length = L.length := by rw [hits, List.length_map]
  have P := PairArg.list (prog := X.prog) (w := X.w) a its.toArray (fun j => (L[j]?.map (·.1)).getD 0) (L.map fun p => (Value.ref p.2.1, Value.bool true))
  have keys : ∀ (h' : Heap), (∀ b o, s.heap.get? b = some o → b < s.heap.objs.size → h'.get? b = some o) → ∀ p ∈ L, IsTupleKey (mixKind X.prog X.w) h' (cK p.2.2) p.2.1 := by
    intro h' k p hp
    obtain ⟨o, its, n, h1, h2, h3, h4⟩ := key_of (ks := cK p.2.2) (P := X.prog) (w := X.w) I.hok (by rw [cK_v]; exact (hL p hp).2)
    exact ⟨o, its, n, k _ _ h1 (Heap.lt_size h1), h2, h3, h4⟩
  refine call_dict_pairsH (knd := tupleKind (mixKind X.prog X.w)) (ps := L.map fun p => (cK p.2.2, p.2.1, Value.bool true)) P (I.ok.hd hc) (show X.A.units + 1 + 1 < cLine by omega) ⟨⟨o, n, ho, hcl, hdi, hdt⟩, ?_, ?_⟩ ⟨?_, ?_⟩ ?_ ?_ fun h' tk dd kp => ?_
  · rw [List.size_toArray, List.length_map, len]
  · intro j k v e
    rw [List.getElem?_map] at e
    obtain ⟨p, hp, ep⟩ := Option.map_eq_some_iff.mp e
    cases ep
    obtain ⟨hT, hb⟩ := hL p (List.mem_of_getElem? hp)
    refine ⟨?_, ?_⟩
    · show _ = some (Value.ref ((L[j]?.map (·.1)).getD 0))
      rw [hits, List.getElem?_toArray, List.getElem?_map, hp]
      rfl
    · show PairAt s.heap ((L[j]?.map (·.1)).getD 0) _ _
      rw [hp]
      obtain ⟨its2, rv2, pt, _⟩ := I.tuple (SqT.of (K := X.K) hT)
      obtain ⟨u1, u2, rfl, r1, r2⟩ := vals2 rv2
      cases r1
      cases r2
      exact .inl pt
  · rw [List.length_map, List.length_map]
  · intro j k v e
    rw [show PairRel _ j k v = ((L.map fun p => (Value.ref p.2.1, Value.bool true))[j]? = some (k, v)) from rfl, List.getElem?_map] at e
    obtain ⟨p, hp, ep⟩ := Option.map_eq_some_iff.mp e
    cases ep
    exact ⟨_, _, by rw [List.getElem?_map, hp]; rfl, rfl⟩
  · intro h' k x hx
    obtain ⟨p, hp, rfl⟩ := List.mem_map.mp hx
    exact keys h' (fun b o e l => k b o (Nat.ne_of_lt l) (fun z => nomatch z) e) p hp
  · rw [List.length_map, ← len]
    exact hz' hz rv
  · have kt := kt_all L [] [] (fun p hp => (hL p hp).2) (show KT H (cdE []) [] from .nil)
    have hD : H s.heap.objs.size = none := I.hok.fresh (Nat.le_refl _)
    obtain ⟨o', es, ep, h1, h2, h3, h4, _, h5⟩ := dd
    refine ⟨.ref s.heap.objs.size, upd H s.heap.objs.size (.dT (cdE (once (L.map (·.2.2))))), I.laid (t' := tk) (fun b o e => kp b o (fun z => nomatch z) e) (Nat.le_refl _)
      ⟨?_, beq_eq_false_iff_ne.mpr (Ne.symm (Nat.ne_of_lt I.big)), _, kt.keeps fun c ys ec => ?_, o', es, ep, h1, h2, h3, h4, h5⟩, rfl, q _ hD⟩
    · have := once_len (L.map (·.2.2))
      rw [List.length_map] at this
      rw [List.length_map]
      have := hz' hz rv
      omega
    · rw [upd_ne (ne_of_none ec hD)]
      exact ec
where
  hz' {xs : List V} {its : List Value} (hz : xs.length ≤ sizeLine) (rv : Vals xs its) : its.length ≤ sizeLine := by rw [← rv.length]; exact hz
end

/-! ### lists and tuples walked alike -/
abbrev SqA (K : PySem.W.Frag) (H : Hp) (a : Addr) (xs : List V) : Prop := SqL K H a xs ∨ SqT K H a xs
def iSeq (K : PySem.W.Frag) (tl : TE) : TI := fun σ H R => tl σ H fun x H1 => ∃ a xs, x = .ref a ∧ ((SqL K H1 a xs ∧ R (Itl K a) H1) ∨ (SqT K H1 a xs ∧ R (Itt K a) H1))
theorem pi_seq {X : Cx} {tg l : Expr} {tl : TE} (hl : PE X l tl) : PI X tg l (iSeq X.K tl) := by
  constructor
  intro pins s σ H R I h
  refine thn (hl.run pins s σ H _ I h) ?_
  rintro v s1 ⟨x, H1, I1, r1, a, xs, rfl, q⟩
  cases r1
  have fresh : ∀ b, b ∈ [s1.heap.objs.size] → FpOk X pins H1 b := fun b hb => by
    rw [List.mem_singleton.mp hb]
    exact I1.fpOk (Nat.le_refl _) (I1.hok.fresh (Nat.le_refl _))
  have grown : ∀ o, Inv X pins σ H1 { s1 with heap := s1.heap.push o } := fun o => I1.kept (t' := s1.toks) fun b o e => Heap.get?_push_of_some _ e
  rcases q with ⟨hq, q⟩ | ⟨hq, q⟩
  · obtain ⟨its, rv, p, hz⟩ := I1.list hq
    refine wpAny_pyIter_list p.isList ?_
    exact ⟨s1.heap.objs.size, [s1.heap.objs.size], _, _, H1, rfl, grown _, turn_list a _, ⟨_, Heap.get?_push_size _ rfl, rfl, rfl⟩, fresh, q⟩
  · obtain ⟨its, rv, p, hz⟩ := I1.tuple hq
    refine wpAny_pyIter_tuple (show s1.heap.IsTuple a its.toArray from p) ?_
    exact ⟨s1.heap.objs.size, [s1.heap.objs.size], _, _, H1, rfl, grown _, turn_tuple a _, ⟨_, Heap.get?_push_size _ rfl, rfl, rfl⟩, fresh, q⟩
theorem kPiS (K : PySem.W.Frag) {X : Cx} {tg l : Expr} {tl : TE} (hl : PE X l tl) (h : X.K = K := by rfl) : PI X tg l (iSeq K tl) := by subst h; exact pi_seq hl
end Cl

/-! LayC: constants of the module (dicts with int keys, tuples); isinstance of data; rules with K given, further. -/
namespace Cl
open PySem PySem.Spec
open PyProof.Rows hiding St
open L2
open RZ (iZipA pi_zipA)

/-! ### constants -/
def kPairs : List DictEntry → List (Int × Addr) → Bool
  | [], [] => true
  | e :: es, p :: ps => (match e.key, e.val with
    | .int j _, .ref b => decide (j = p.1) && decide (b = p.2)
    | _, _ => false) && (decide (e.hash = hashInt p.1) && kPairs es ps)
  | _, _ => false
def kIntD (K : PySem.W.Frag) (d : Addr) (kvs : List (Int × Addr)) : Bool := match K.lookup d with
  | some ⟨.type c, none, .dict es _, sl⟩ => decide (c = "dict") && (sl.isEmpty && kPairs es.toList kvs)
  | _ => false
theorem kPairs_ok {P : Program} {w : World} : ∀ {es : List DictEntry} {ps : List (Int × Addr)}, kPairs es ps = true →
    Pairs (mixKind P w) es (ps.map fun p => (Sum.inl p.1, Value.ref p.2)) ∧ ∀ e ∈ es, ∃ k, (mixKind P w).is k e.key = true ∧ e.hash = (mixKind P w).hash k
  | [], [], _ => ⟨.nil, fun e he => by cases he⟩
  | [], _ :: _, h => by cases h
  | _ :: _, [], h => by cases h
  | e :: es, p :: ps, h => by
    obtain ⟨h1, h2⟩ := He.ba (show ((match e.key, e.val with
      | .int j _, .ref b => decide (j = p.1) && decide (b = p.2)
      | _, _ => false) && (decide (e.hash = hashInt p.1) && kPairs es ps)) = true from h)
    obtain ⟨h2, h3⟩ := He.ba h2
    obtain ⟨q1, q2⟩ := kPairs_ok (P := P) (w := w) h3
    obtain ⟨hs, key, val⟩ := e
    dsimp only at h1 h2
    cases key with
    | int j t =>
      cases val with
      | ref b =>
        obtain ⟨h4, h5⟩ := He.ba (show (decide (j = p.1) && decide (b = p.2)) = true from h1)
        have e1 := of_decide_eq_true h4
        have e2 := of_decide_eq_true h5
        subst e1 e2
        have is : (mixKind P w).is (Sum.inl p.1) (Value.int p.1 t) = true := keyIs_int p.1 t
        refine ⟨.cons is rfl q1, fun e he => ?_⟩
        rcases List.mem_cons.mp he with rfl | he
        · exact ⟨Sum.inl p.1, is, of_decide_eq_true h2⟩
        · exact q2 e he
      | _ => cases h1
    | _ => cases val <;> cases h1
theorem kIntD_ok {P : Program} {w : World} {K : PySem.W.Frag} {h : Heap} {d : Addr} {kvs : List (Int × Addr)} (c : kIntD K d kvs = true) (nd : (kvs.map (·.1)).Nodup) (X : K.In h) :
    h.DictOf (mixKind P w) d (kvs.map fun p => (Sum.inl p.1, Value.ref p.2)) := by
  unfold kIntD at c
  split at c
  · rename_i cn es ep sl q
    obtain ⟨c1, c⟩ := He.ba c
    obtain ⟨c2, c3⟩ := He.ba c
    obtain ⟨p1, p2⟩ := kPairs_ok (P := P) (w := w) c3
    refine ⟨_, es, ep, X _ _ q, ⟨congrArg Value.type (of_decide_eq_true c1), rfl, Array.isEmpty_iff.mp c2⟩, rfl, fun e he => p2 e (Array.mem_toList_iff.mpr he), p1, ?_⟩
    rw [List.map_map]
    have e : (kvs.map ((fun x : Key × Value => x.1) ∘ fun p : Int × Addr => ((Sum.inl p.1 : Key), Value.ref p.2))) = (kvs.map (·.1)).map Sum.inl := by
      rw [List.map_map]
      rfl
    rw [e]
    exact List.Pairwise.map _ (fun a b ne z => ne (Sum.inl.inj z)) nd
  · cases c
def atI2 (kvs : List (Int × Addr)) (i : Int) : Option Addr := (kvs.find? fun p => decide (p.1 = i)).map (·.2)
theorem valueAt_ints (kvs : List (Int × Addr)) (i : Int) : valueAt (kvs.map fun p => ((Sum.inl p.1 : Key), Value.ref p.2)) (Sum.inl i) = (atI2 kvs i).map Value.ref := by
  unfold valueAt atI2
  rw [List.find?_map, Option.map_map, Option.map_map]
  have e : ((fun kv : Key × Value => decide (kv.1 = Sum.inl i)) ∘ fun p : Int × Addr => ((Sum.inl p.1 : Key), Value.ref p.2)) = fun p => decide (p.1 = i) := by
    funext p
    exact decide_eq_decide.mpr ⟨fun z => Sum.inl.inj z, fun z => congrArg Sum.inl z⟩
  rw [e]
  rfl
/-- d[i], d a dict of the module -/
def tKGet (K : PySem.W.Frag) (td ti : TE) : TE := fun σ H Q => td σ H fun x H1 => ti σ H1 fun y H2 => ∃ (d : Addr) (kvs : List (Int × Addr)) (i : Int) (a : Addr), x = .ref d ∧ y = .int i ∧ kIntD K d kvs = true ∧ (kvs.map (·.1)).Nodup ∧
  atI2 kvs i = some a ∧ Q (.ref a) H2
theorem pe_kget (K : PySem.W.Frag) {X : Cx} {o i : Expr} {td ti : TE} {pos : Pos} (ho : PE X o td) (hi : PE X i ti) (hs : NoSl i) (hK : X.K = K := by rfl) : PE X (.Subscript o i pos) (tKGet K td ti) := by
  subst hK
  constructor
  intro pins s σ H Q I h
  refine subD_of PySem.F.slot_dict_getitem.lookup hs (thn (ho.run pins s σ H _ I h) ?_)
  rintro u s1 ⟨x, H1, I1, rx, q1⟩
  refine thn (hi.run pins s1 σ H1 _ I1 q1) ?_
  rintro iv s2 ⟨y, H2, I2, ry, d, kvs, j, a, rfl, rfl, hd, nd, ha, q2⟩
  obtain rfl : u = Value.ref d := rx
  obtain ⟨t, rfl⟩ := ry
  have dd := kIntD_ok (P := X.prog) (w := X.w) hd nd I2.kIn
  refine ⟨dd.typeIs, wpAny_getItem_of (k := Sum.inl j) (keyIs_int j t) dd.mapOf (by rw [valueAt_ints, ha]; rfl) ?_⟩
  exact ⟨.ref a, H2, I2.tok _, rfl, q2⟩
/-- a tuple of the module at a -/
def tupAt (K : PySem.W.Frag) (a : Addr) (vs : List V) : Bool := match K.lookup a with
  | some ⟨.type c, _, .seq its _, _⟩ => decide (c = "tuple") && (decide (its.size ≤ sizeLine) && He.relAll vs its.toList)
  | _ => false
theorem tupAt_ok {K : PySem.W.Frag} {a : Addr} {vs : List V} (h : tupAt K a vs = true) (H : Hp) : SqT K H a vs := by
  unfold tupAt at h
  split at h
  · rename_i c dd its n sl q
    obtain ⟨h1, h⟩ := He.ba h
    obtain ⟨h2, h3⟩ := He.ba h
    exact .inr ⟨_, its, n, q, congrArg Value.type (of_decide_eq_true h1), rfl, of_decide_eq_true h2, He.relAll_ok h3⟩
  · cases h

/-! ### isinstance of data -/
def isTy (n : String) : PyData → Bool
  | .none => false
  | .bool _ => n == "bool" || n == "int"
  | .int _ => n == "int"
  | .str _ => n == "str"
  | .tuple _ => n == "tuple"
  | .list _ => n == "list"
  | .dict _ => n == "dict"
def tyN : List String := ["bool", "int", "str", "tuple", "list", "dict"]
theorem kit_ty {K : PySem.W.Frag} {n : String} (h : n ∈ tyN) :
    PySem.W.kitOne K (.type "NoneType") (.type n) = some false ∧ PySem.W.kitOne K (.type "bool") (.type n) = some (n == "bool" || n == "int") ∧ PySem.W.kitOne K (.type "int") (.type n) = some (n == "int") ∧
    PySem.W.kitOne K (.type "str") (.type n) = some (n == "str") ∧ PySem.W.kitOne K (.type "tuple") (.type n) = some (n == "tuple") ∧ PySem.W.kitOne K (.type "list") (.type n) = some (n == "list") ∧
    PySem.W.kitOne K (.type "dict") (.type n) = some (n == "dict") := by
  simp only [tyN, List.mem_cons, List.not_mem_nil, or_false] at h
  rcases h with rfl | rfl | rfl | rfl | rfl | rfl <;> exact ⟨rfl, rfl, rfl, rfl, rfl, rfl, rfl⟩
theorem Dt.ty {K : PySem.W.Frag} {H : Hp} {v : V} {d : PyData} (h : Dt H v d) {n : String} (hn : n ∈ tyN) : ∃ t, TyX K H v t ∧ PySem.W.kitOne K t (.type n) = some (isTy n d) := by
  obtain ⟨k1, k2, k3, k4, k5, k6, k7⟩ := kit_ty (K := K) hn
  cases h with
  | non => exact ⟨_, .base .non, k1⟩
  | bl b => exact ⟨_, .base (.bl b), k2⟩
  | int i => exact ⟨_, .base (.int i), k3⟩
  | str x => exact ⟨_, .base (.str x), k4⟩
  | tup e _ => exact ⟨_, .base (.tup e), k5⟩
  | lst e _ => exact ⟨_, .base (.lst e), k6⟩
  | edc e => exact ⟨_, .base (.dK e), k7⟩
def rIsD : List V → Hp → VK → Prop := fun xs H Q => ∃ (v : V) (d : PyData) (n : String), xs = [v, .ty n] ∧ Dt H v d ∧ n ∈ tyN ∧ Q (.bl (isTy n d)) H
theorem call_isD {X : Cx} : CallR X (.builtin "isinstance") rIsD := by
  intro pins s σ H xs us Q I r h
  obtain ⟨v, d, n, rfl, hd, hn, q⟩ := h
  obtain ⟨t, ty, k⟩ := hd.ty (K := X.K) hn
  exact call_isi pins s σ H [v, .ty n] us Q I r ⟨v, .ty n, t, _, _, rfl, .ty n, ty, k, q⟩

/-! ### rules with K given -/
section
variable (K : PySem.W.Frag) {X : Cx}
theorem kRepT (h : X.K = K := by rfl) : OpR X (binaryOp .Mult) (rRepT K) := by subst h; exact op_repT
theorem kTg {pos : Pos} {es : List Expr} {k : Nat} {t : TGs} {n : Nat} (hc : X.calm = true) (h : PGs X es t) (hK : X.K = K := by rfl)
    (hn : (assignEach es X.env).length = n := by rfl) (hst : (assignEach es X.env).findIdx? (·.1) = none := by rfl) : PG X (.Tuple es k pos) (gTup K n t) := by subst hK; exact pg_tup hc h hn hst
theorem kZip {e e2 : Expr} {ta : TA} {p pos tpos : Pos} {elts : List Expr} {kk : Nat} (hg : Gl X "zip") (hm : X.mg "zip" = none) (ha : PA X [e, e2] ta) (h : X.K = K := by rfl)
    (hs : starEach [e, e2] X.env = (false, eval e X.env) :: starEach [e2] X.env := by rfl) (hpl : (backTo pos (starEach [e2] X.env)).any (·.1) = false := by rfl) :
    PI X (.Tuple elts kk tpos) (.Call (.Name "zip" p) [e, e2] [] pos) (iZipA K ta) := by subst h; exact pi_zipA hg hm ha hs hpl
end
end Cl

/-! LayE: x in a list of data; {t: v}; == of data that are alike; more of cells. -/
namespace Cl
open PySem PySem.Spec
open PyProof.Rows hiding St
open L2

/-! ### {t: v}, one pair, the key a tuple -/
def tDisp1 (tk tv : TE) : TE := fun σ H Q => ∀ p, H p = none → tPairs [(tk, tv)] σ (upd H p (.dT [])) fun ps H2 => ∃ (b : Addr) (k : List Key) (z : V), ps = [(V.ref b, z)] ∧ H2 b = some (.tup (k.map kV)) ∧
  H2 p = some (.dT []) ∧ Q (.ref p) (upd H2 p (.dT [(k, z)]))
theorem pe_disp1 {X : Cx} {k v : Expr} {tk tv : TE} {pos : Pos} (hu : X.A.units + 1 < cLine) (hk : PE X k tk) (hv : PE X v tv) : PE X (.Dict [some k] [v] pos) (tDisp1 tk tv) := by
  constructor
  intro pins s σ H Q I h
  have hn : H s.heap.objs.size = none := I.hok.fresh (Nat.le_refl _)
  have I1 : Inv X pins σ (upd H s.heap.objs.size (.dT [])) { s with heap := s.heap.push { cls := .type "dict", data := .dict #[] } } :=
    I.laid (t' := s.toks) (fun _ _ q => Heap.get?_push_of_some _ q) (Nat.le_refl _) (dt_empty s.heap I.big)
  have pr : PPs X pos [some k] [v] [(tk, tv)] := pps_cons hk hv pps_nil
  have ln : (pairTrees [some k] [v] X.env pos).length = 1 := pairTrees_length [some k] [v] X.env pos (by rfl) rfl
  have hh := h _ hn
  rw [arm_eval_Dict, zip_pairTrees [some k] [v] X.env pos (by rfl) rfl, dictDisplay_pairs (pairTrees [some k] [v] X.env pos) (fun z => by rw [z] at ln; cases ln) (by rw [ln]; decide)]
  refine wpAny_bind (wpAny_standAt (wpAny_bind (wpAny_subDictH (knd := tupleKind (mixKind X.prog X.w)) (Q := fun d s' => wpAny (model X.prog X.w) X.A (pure (Value.ref d)) (EP X pins σ Q) X.xe s')
    (show X.A.units < cLine by omega) (by rw [ln]; decide) ?_)))
  refine thn (pr.run pins _ σ _ _ I1 hh) ?_
  rintro vs s2 ⟨ps, H2, I2, rel, b, ks, z, rfl, hb, hD, q⟩
  cases rel with
  | cons r1 r2 =>
    rename_i p2 l2
    cases r2
    obtain ⟨u1, u2⟩ := p2
    obtain ⟨ra, rb⟩ := r1
    obtain rfl : u1 = Value.ref b := ra
    obtain ⟨_, lo, xs0, r0, dd⟩ := dt_of I2.hok hD
    cases r0
    refine ⟨[(ks, b, u2)], ⟨rfl, rfl, key_of I2.hok hb, trivial⟩, dd, fun h' tk dd' sb => wpAny_pure ⟨.ref s.heap.objs.size, upd H2 s.heap.objs.size (.dT [(ks, z)]), ?_, rfl, q⟩⟩
    refine dt_write (kvs2 := [(ks, z)]) I2 hD sb dd' lo (by rw [sizeLine_eq]; show 1 ≤ 16777216; omega) ?_
    exact .cons ⟨rfl, hb, rb⟩ .nil

/-! ### x in a list of data -/
def rInT (neg : Bool) : R2 := fun x y H Q => ∃ (d : PyData) (ds : List PyData), Dt H x d ∧ Dt H y (.list ds) ∧ SeqAt.shaped d = true ∧ SeqAt.shaped (.list ds) = true ∧
  Q (.bl (if neg then !(ds.any fun z => PyData.eqv z d) else ds.any fun z => PyData.eqv z d)) H
section
variable {X : Cx}
theorem op_inT (hu : X.A.units + 65 < cLine) : OpR X (compareOp .In) (rInT false) := by
  intro pins s σ H x y v u Q I rx ry h
  obtain ⟨d, ds, hd, he, sd, se, q⟩ := h
  obtain ⟨as, r1⟩ := Dt.reads I d x v hd rx
  obtain ⟨bs, r2⟩ := Dt.reads I _ y u he ry
  exact SeqAt.in_list_reads r2 r1 (SeqAt.canLay_of_shaped se) (SeqAt.canLay_of_shaped sd) (room_in_shaped sd hu) ⟨.bl _, H, I, rfl, q⟩
theorem op_notInT (hu : X.A.units + 65 < cLine) : OpR X (compareOp .NotIn) (rInT true) := by
  intro pins s σ H x y v u Q I rx ry h
  obtain ⟨d, ds, hd, he, sd, se, q⟩ := h
  obtain ⟨as, r1⟩ := Dt.reads I d x v hd rx
  obtain ⟨bs, r2⟩ := Dt.reads I _ y u he ry
  exact SeqAt.notIn_list_reads r2 r1 (SeqAt.canLay_of_shaped se) (SeqAt.canLay_of_shaped sd) (room_in_shaped sd hu) ⟨.bl _, H, I, rfl, q⟩
end
theorem units65 {k : Nat} {A : Around} (r : Room k A) : A.units + 65 < cLine := by have := r.un; omega
theorem units1 {k : Nat} {A : Around} (r : Room k A) : A.units + 1 < cLine := by have := r.un; omega

/-! ### == of plain data -/
theorem eqv_ints : ∀ a b : List Int, PyData.eqvAll (a.map PyData.int) (b.map PyData.int) = decide (a = b)
  | [], [] => rfl
  | [], _ :: _ => rfl
  | _ :: _, [] => rfl
  | x :: a, y :: b => by
    show (PyData.eqv (.int x) (.int y) && PyData.eqvAll (a.map PyData.int) (b.map PyData.int)) = _
    rw [eqv_ints a b]
    have e : PyData.eqv (.int x) (.int y) = decide (x = y) := by
      rw [PyData.eqv]
      exact Bool.eq_iff_iff.mpr (by simp)
    rw [e]
    by_cases h1 : x = y
    · by_cases h2 : a = b
      · simp [h1, h2]
      · simp [h1, h2]
    · simp [h1]
theorem eqv_cell (a b : List Int) : PyData.eqv (ceD a) (ceD b) = decide (a = b) := by
  show PyData.eqv (.tuple _) (.tuple _) = _
  rw [PyData.eqv]
  exact eqv_ints a b
theorem eqv_cells : ∀ A B : List (List Int), PyData.eqvAll (A.map ceD) (B.map ceD) = decide (A = B)
  | [], [] => rfl
  | [], _ :: _ => rfl
  | _ :: _, [] => rfl
  | x :: a, y :: b => by
    show (PyData.eqv (ceD x) (ceD y) && PyData.eqvAll (a.map ceD) (b.map ceD)) = _
    rw [eqv_cells a b, eqv_cell]
    by_cases h1 : x = y
    · by_cases h2 : a = b
      · simp [h1, h2]
      · simp [h1, h2]
    · simp [h1]
theorem any_cell (S : List (List Int)) (c : List Int) : ((S.map ceD).any fun z => PyData.eqv z (ceD c)) = decide (c ∈ S) := by
  rw [List.any_map, Bool.eq_iff_iff, List.any_eq_true, decide_eq_true_iff]
  constructor
  · rintro ⟨d, hd, e⟩
    have e : PyData.eqv (ceD d) (ceD c) = true := e
    rw [eqv_cell] at e
    rw [← of_decide_eq_true e]
    exact hd
  · intro h
    refine ⟨c, h, ?_⟩
    show PyData.eqv (ceD c) (ceD c) = true
    rw [eqv_cell]
    exact decide_eq_true rfl
theorem canLay_all {ds : List PyData} (h : ∀ d ∈ ds, d.canLay0 = true) : PyData.canLayAll0 ds = true := by
  induction ds with
  | nil => rfl
  | cons d ds ih =>
    show (d.canLay0 && PyData.canLayAll0 ds) = true
    rw [h d List.mem_cons_self, ih fun x hx => h x (List.mem_cons_of_mem _ hx)]
    rfl
theorem depth_all {ds : List PyData} {n : Nat} (h : ∀ d ∈ ds, d.depth ≤ n) : PyData.depthAll ds ≤ n := by
  induction ds with
  | nil => exact Nat.zero_le _
  | cons d ds ih => exact Nat.max_le.mpr ⟨h d List.mem_cons_self, ih fun x hx => h x (List.mem_cons_of_mem _ hx)⟩
/-- may be compared, n deep -/
def Cmpr (n : Nat) (d : PyData) : Prop := d.canLay0 = true ∧ d.depth ≤ n
theorem Cmpr.shaped {n : Nat} {d : PyData} (h : Cmpr n d) (hn : n ≤ 64 := by decide) : SeqAt.shaped d = true := by
  unfold SeqAt.shaped
  rw [h.1, Bool.true_and]
  exact decide_eq_true (Nat.le_trans h.2 hn)
theorem Cmpr.tup {n : Nat} {ds : List PyData} (h : ∀ d ∈ ds, Cmpr n d) : Cmpr (n + 1) (.tuple ds) := ⟨canLay_all fun d hd => (h d hd).1, Nat.succ_le_succ (depth_all fun d hd => (h d hd).2)⟩
theorem Cmpr.lst {n : Nat} {ds : List PyData} (h : ∀ d ∈ ds, Cmpr n d) : Cmpr (n + 1) (.list ds) := ⟨canLay_all fun d hd => (h d hd).1, Nat.succ_le_succ (depth_all fun d hd => (h d hd).2)⟩
theorem cmpr_cell (c : List Int) : Cmpr 1 (ceD c) := Cmpr.tup fun d hd => by
  obtain ⟨x, _, rfl⟩ := List.mem_map.mp hd
  exact ⟨rfl, Nat.le_refl _⟩
theorem cmpr_cells (S : List (List Int)) : Cmpr 2 (.list (S.map ceD)) := Cmpr.lst fun d hd => by
  obtain ⟨c, _, rfl⟩ := List.mem_map.mp hd
  exact cmpr_cell c
end Cl

/-! LayM: the plain words of cells: whole numbers, cells of a dimension, neighbours, parts that hang. No program in sight. -/
namespace Cl
open PySem PySem.Spec
open PyProof.Rows hiding St
open L2

def whl : PyData → Bool
  | .int _ => true
  | _ => false
def isOf (n : Int) : PyData → Bool
  | .tuple ds => decide ((ds.length : Int) = n) && ds.all whl
  | _ => false
def isAny (d : PyData) : Bool := isOf 2 d || (isOf 3 d || isOf 4 d)
theorem ints_of {ds : List PyData} (h : ds.all whl = true) : ∃ c : List Int, ds = c.map PyData.int := by
  induction ds with
  | nil => exact ⟨[], rfl⟩
  | cons d ds ih =>
    obtain ⟨h1, h2⟩ := He.ba (show (whl d && ds.all whl) = true from h)
    obtain ⟨c, rfl⟩ := ih h2
    cases d with
    | int i => exact ⟨i :: c, rfl⟩
    | _ => cases h1
theorem all_ints (c : List Int) : (c.map PyData.int).all whl = true := by
  induction c with
  | nil => rfl
  | cons x c ih => exact ih
theorem isOf_cell (n : Int) (c : List Int) : isOf n (ceD c) = decide ((c.length : Int) = n) := by
  show (decide (((c.map PyData.int).length : Int) = n) && (c.map PyData.int).all whl) = _
  rw [all_ints, Bool.and_true, List.length_map]
theorem isOf_iff {n : Int} {d : PyData} (h : isOf n d = true) : ∃ c : List Int, d = ceD c ∧ (c.length : Int) = n := by
  cases d with
  | tuple ds =>
    obtain ⟨h1, h2⟩ := He.ba (show (decide ((ds.length : Int) = n) && ds.all whl) = true from h)
    obtain ⟨c, rfl⟩ := ints_of h2
    refine ⟨c, rfl, ?_⟩
    have := of_decide_eq_true h1
    rwa [List.length_map] at this
  | _ => cases h
/-- a dimension -/
def Dm (n : Nat) : Prop := n = 2 ∨ n = 3 ∨ n = 4
theorem isAny_iff {d : PyData} (h : isAny d = true) : ∃ c : List Int, d = ceD c ∧ Dm c.length := by
  unfold isAny at h
  simp only [Bool.or_eq_true] at h
  rcases h with h | h | h <;> obtain ⟨c, e, l⟩ := isOf_iff h
  · exact ⟨c, e, .inl (by omega)⟩
  · exact ⟨c, e, .inr (.inl (by omega))⟩
  · exact ⟨c, e, .inr (.inr (by omega))⟩
theorem isAny_cell {c : List Int} (h : Dm c.length) : isAny (ceD c) = true := by
  unfold isAny
  rw [isOf_cell, isOf_cell, isOf_cell]
  rcases h with h | h | h <;> rw [h] <;> rfl
theorem Dm.ne {c : List Int} (h : Dm c.length) : c ≠ [] := fun z => by
  rw [z] at h
  rcases h with h | h | h <;> cases h

/-! ### neighbours -/
def stp : Nat → List (List Int)
  | 2 => [[-1, 0], [0, -1], [0, 1], [1, 0]]
  | 3 => [[-1, 0, 0], [0, -1, 0], [0, 0, -1], [0, 0, 1], [0, 1, 0], [1, 0, 0]]
  | 4 => [[-1, 0, 0, 0], [0, -1, 0, 0], [0, 0, -1, 0], [0, 0, 0, -1], [0, 0, 0, 1], [0, 0, 1, 0], [0, 1, 0, 0], [1, 0, 0, 0]]
  | _ => []
def addv (a b : List Int) : List Int := List.zipWith (· + ·) a b
def nbr (c : List Int) : List (List Int) := (stp c.length).map (addv c)
theorem stp_len {n : Nat} (h : Dm n) : ∀ s ∈ stp n, s.length = n := by
  rcases h with rfl | rfl | rfl <;> decide
theorem nbr_len {c d : List Int} (h : Dm c.length) (hd : d ∈ nbr c) : d.length = c.length := by
  obtain ⟨s, hs, rfl⟩ := List.mem_map.mp hd
  show (List.zipWith _ _ _).length = _
  rw [List.length_zipWith, stp_len h s hs, Nat.min_self]
end Cl

/-! LayZ: comprehensions over whatever tells its items: zip, dicts; loops over lists and tuples alike. -/
namespace Cl
open PySem PySem.Spec
open PyProof.Rows hiding St
open L2
open RZ (iZipA ItzT)

/-- the iterable tells n items, the i-th of them by It, while S holds -/
def Tells1 (wi : TI) (σ : St) (H : Hp) (n : Nat) (It : Nat → V → Hp → Prop) (S : Hp → Prop) : Prop := ∀ R : L2.It → Hp → Prop, (∀ J H1, Same H H1 → S H1 →
  (∀ i H', S H' → i < n → J.go i H') → (∀ i H' x H'', S H' → i < n → J.yld i H' x H'' → Same H' H'' ∧ It i x H'') → (∀ H', S H' → J.stop n H') → R J H1) → wi σ H R
/-- the target is set, to a state of P -/
def GoTo (g : TG) (x : V) (σ : St) (H : Hp) (P : St → Hp → Prop) : Prop := ∀ Q : St → Hp → Prop, (∀ σ2 H2, P σ2 H2 → Q σ2 H2) → g x σ H Q
/-- .. whatever the word is that has to stay -/
def Tells2 (wi : TI) (σ : St) (H : Hp) (n : Nat) (It : Nat → V → Hp → Prop) : Prop := ∀ R : L2.It → Hp → Prop, (∀ J H1 (S : Hp → Prop), (∀ H' H'', S H' → Same H' H'' → S H'') → Same H H1 → S H1 →
  (∀ i H', S H' → i < n → J.go i H') → (∀ i H' x H'', S H' → i < n → J.yld i H' x H'' → Same H' H'' ∧ It i x H'') → (∀ H', S H' → J.stop n H') → R J H1) → wi σ H R
theorem lc_any2 {wi : TI} {g : TG} {tt : TT} {te : TE} {vs : List Nat} {σ : St} {H : Hp} {Q : VK} {n : Nat} {It : Nat → V → Hp → Prop} {b : Nat → Bool} {f : Nat → PyData} (hn : n ≤ 100000)
    (hw : Tells2 wi σ H n It)
    (step : ∀ i x H', i < n → Same H H' → It i x H' → GoTo g x (wipe σ vs) H' fun σ2 H2 => wipe σ2 vs = wipe σ vs ∧ Same H' H2 ∧ Et tt σ2 H2 (b i) ∧ (b i = true → Ed te σ2 H2 (isD (f i)) ∧ pu (f i) = true))
    (k : LcEnd H (told n b f) Q) : tLc wi g tt te vs σ H Q := by
  refine hw _ fun J H1 S hS e1 s1 go yld stop D hD => ?_
  have hD0 := same_free e1 hD
  refine ⟨fun i m H' => m = n - i ∧ i ≤ n ∧ Cw H1 D (told i b f) H', ⟨n, rfl, Nat.zero_le _, hD, sameNew hD, rfl, [], upd_same, .nil⟩, ?_⟩
  rintro i m H' ⟨rfl, hi, p⟩
  have e2 := p.2.1
  have sH := hS _ _ s1 e2
  rcases Nat.lt_or_ge i n with lt | ge
  · refine Or.inr ⟨go i H' sH lt, fun H'' => Cw H1 D (told (i + 1) b f) H'', fun H'' p' => ⟨n - (i + 1), by omega, rfl, lt, p'⟩, fun x H'' y => ?_⟩
    obtain ⟨e3, it⟩ := yld i H' x H'' sH lt y
    refine step i x H'' lt ((e1.trans e2).trans e3) it _ ?_
    rintro σ2 H2 ⟨w2, e4, ht, he⟩
    refine ⟨w2, ?_⟩
    have p2 : Cw H1 D (told i b f) H2 := by
      obtain ⟨p1, p2, p3, ys, p4, p5⟩ := p
      exact ⟨p1, (p2.trans e3).trans e4, p3, ys, e4 _ _ (e3 _ _ p4), (p5.same e3).same e4⟩
    have hl := told_len i b f
    rw [told_succ]
    exact cw_turn2 p2 (by omega) ht he
  · obtain rfl : i = n := by omega
    obtain ⟨p1, p2, _, ys, p3, p4⟩ := p
    exact Or.inl ⟨stop H' sH, k D H' ys hD0 (e1.trans p2) p3 p4⟩
where
  cw_turn2 {σ2 : St} {H H' : Hp} {te : TE} {tt : TT} {D : Addr} {ds : List PyData} {b : Bool} {f : PyData} (p : Cw H D ds H') (hz : ds.length < 1000000) (ht : Et tt σ2 H' b) (he : b = true → Ed te σ2 H' (isD f) ∧ pu f = true) :
      tt σ2 H' fun b' H3 => if b' = true then te σ2 H3 fun y H4 => ∃ acc, H4 D = some (.lst acc) ∧ acc.length < sizeLine ∧
        Cw H D (if b = true then ds ++ [f] else ds) (upd H4 D (.lst (acc ++ [y]))) else Cw H D (if b = true then ds ++ [f] else ds) H3 := by
    obtain ⟨p1, p2, pp, ys, p3, p4⟩ := p
    refine ht H' (Same.refl _) _ fun H3 e3 => ?_
    cases b with
    | true =>
      show te σ2 H3 _
      obtain ⟨he, pf⟩ := he rfl
      refine he H3 e3 _ fun y H4 e4 hy => ⟨ys, e4 _ _ (e3 _ _ p3), ?_, p1, same_mut ((p2.trans e3).trans e4) p1, puAll_snoc pp pf, _, upd_same, ?_⟩
      · rw [p4.length, sizeLine_eq]
        omega
      · exact (((p4.same e3).same e4).tk (tk_lst (e4 _ _ (e3 _ _ p3))) pp).snoc (hy.tk (tk_lst (e4 _ _ (e3 _ _ p3))) pf)
    | false => exact ⟨p1, p2.trans e3, pp, ys, e3 _ _ p3, p4.same e3⟩
theorem lc_any {wi : TI} {g : TG} {tt : TT} {te : TE} {vs : List Nat} {σ : St} {H : Hp} {Q : VK} {n : Nat} {It : Nat → V → Hp → Prop} {S : Hp → Prop} {b : Nat → Bool} {f : Nat → PyData} (hn : n ≤ 100000)
    (hw : Tells1 wi σ H n It S) (hS : ∀ H' H'', S H' → Same H' H'' → S H'')
    (step : ∀ i x H', i < n → Same H H' → It i x H' → GoTo g x (wipe σ vs) H' fun σ2 H2 => wipe σ2 vs = wipe σ vs ∧ Same H' H2 ∧ Et tt σ2 H2 (b i) ∧ (b i = true → Ed te σ2 H2 (isD (f i)) ∧ pu (f i) = true))
    (k : LcEnd H (told n b f) Q) : tLc wi g tt te vs σ H Q := lc_any2 hn (fun R r => hw R fun J H1 e1 s1 go yld stop => r J H1 S hS e1 s1 go yld stop) step k
theorem SqT.same {K : PySem.W.Frag} {H H' : Hp} {a : Addr} {xs : List V} (h : SqT K H a xs) (e : Same H H') : SqT K H' a xs := by
  rcases h with (h | ⟨o, h⟩) | h
  · exact .inl (.inl (e _ _ h))
  · exact .inl (.inr ⟨o, e _ _ h⟩)
  · exact .inr h
theorem SqL.same {K : PySem.W.Frag} {H H' : Hp} {a : Addr} {xs : List V} (h : SqL K H a xs) (e : Same H H') : SqL K H' a xs := e.seq h
theorem goTo_name {j : Nat} {x : V} {σ : St} {H : Hp} {P : St → Hp → Prop} (h : P (σ.set j (some x)) H) : GoTo (gName j) x σ H P := fun Q q => q _ _ h
theorem goTo_pair {K : PySem.W.Frag} {i j : Nat} {x y : V} {T : Addr} {σ : St} {H : Hp} {P : St → Hp → Prop} (hT : SqT K H T [x, y]) (h : P ((σ.set i (some x)).set j (some y)) H) :
    GoTo (gTup K 2 (gCons (gName i) (gCons (gName j) gNil))) (.ref T) σ H P := fun Q q => ⟨T, [x, y], rfl, hT, rfl, x, [y], rfl, y, [], rfl, rfl, q _ _ h⟩
/-- zip of two tuples of one length -/
theorem tells_zip {K : PySem.W.Frag} {σ : St} {H : Hp} {ta : TA} {a b : Addr} {xs ys : List V} (hl : xs.length = ys.length) (ha : ∀ Q : List V → Hp → Prop, Q [.ref a, .ref b] H → ta σ H Q)
    (hx : SqT K H a xs) (hy : SqT K H b ys) : Tells1 (iZipA K ta) σ H xs.length (fun i v H' => ∃ (T : Addr) (x y : V), v = .ref T ∧ H' T = some (.tup [x, y]) ∧ xs[i]? = some x ∧ ys[i]? = some y)
      fun H' => SqT K H' a xs ∧ SqT K H' b ys := by
  intro R r
  refine ha _ ⟨a, b, xs, ys, rfl, Or.inr ⟨hx, hy, r _ _ (Same.refl _) ⟨hx, hy⟩ ?_ ?_ ?_⟩⟩
  · rintro i H' ⟨hx, hy⟩ lt
    exact ⟨xs, ys, xs[i], ys[i]'(by omega), hx, hy, List.getElem?_eq_getElem lt, List.getElem?_eq_getElem _⟩
  · rintro i H' v H'' ⟨hx, hy⟩ lt ⟨T, x, y, rfl, hT, rfl, f1, f2⟩
    exact ⟨sameNew hT, T, x, y, rfl, upd_same, f1 _ hx, f2 _ hy⟩
  · rintro H' ⟨hx, hy⟩
    exact ⟨xs, ys, hx, hy, Or.inl (Nat.le_refl _)⟩
theorem stay_zip {K : PySem.W.Frag} {a b : Addr} {xs ys : List V} : ∀ H' H'', (SqT K H' a xs ∧ SqT K H' b ys) → Same H' H'' → SqT K H'' a xs ∧ SqT K H'' b ys := fun _ _ h e => ⟨SqT.same h.1 e, SqT.same h.2 e⟩
theorem tells_tup {K : PySem.W.Frag} {σ : St} {H : Hp} {te : TE} {a : Addr} {xs : List V} (ha : ∀ Q : VK, (∀ H1, Same H H1 → SqT K H1 a xs → Q (.ref a) H1) → te σ H Q) :
    Tells1 (iTup K te) σ H xs.length (fun i v _ => xs[i]? = some v) fun H' => SqT K H' a xs := by
  intro R r
  refine ha _ fun H1 e1 hx => ⟨a, rfl, ⟨xs, hx⟩, r _ _ e1 hx ?_ ?_ ?_⟩
  · exact fun i H' h lt => ⟨xs, xs[i], h, List.getElem?_eq_getElem lt⟩
  · rintro i H' v H'' h lt ⟨rfl, y⟩
    exact ⟨Same.refl _, y xs h⟩
  · exact fun H' h => ⟨xs, h, Nat.le_refl _⟩
theorem stay_tup {K : PySem.W.Frag} {a : Addr} {xs : List V} : ∀ H' H'', SqT K H' a xs → Same H' H'' → SqT K H'' a xs := fun _ _ h e => SqT.same h e
theorem tells_lst {K : PySem.W.Frag} {σ : St} {H : Hp} {te : TE} {a : Addr} {xs : List V} (ha : ∀ Q : VK, (∀ H1, Same H H1 → SqL K H1 a xs → Q (.ref a) H1) → te σ H Q) :
    Tells1 (iList K te) σ H xs.length (fun i v _ => xs[i]? = some v) fun H' => SqL K H' a xs := by
  intro R r
  refine ha _ fun H1 e1 hx => ⟨a, rfl, ⟨xs, hx⟩, r _ _ e1 hx ?_ ?_ ?_⟩
  · exact fun i H' h lt => ⟨xs, xs[i], h, List.getElem?_eq_getElem lt⟩
  · rintro i H' v H'' h lt ⟨rfl, y⟩
    exact ⟨Same.refl _, y xs h⟩
  · exact fun H' h => ⟨xs, h, Nat.le_refl _⟩
theorem stay_lst {K : PySem.W.Frag} {a : Addr} {xs : List V} : ∀ H' H'', SqL K H' a xs → Same H' H'' → SqL K H'' a xs := fun _ _ h e => SqL.same h e
theorem tells_seq {K : PySem.W.Frag} {σ : St} {H : Hp} {te : TE} {a : Addr} {xs : List V} (ha : ∀ Q : VK, Q (.ref a) H → te σ H Q) (hx : SqA K H a xs) :
    Tells1 (iSeq K te) σ H xs.length (fun i v _ => xs[i]? = some v) fun H' => (SqL K H a xs → SqL K H' a xs) ∧ (SqT K H a xs → SqT K H' a xs) := by
  intro R r
  rcases hx with hx | hx
  · refine ha _ ⟨a, xs, rfl, Or.inl ⟨hx, r _ _ (Same.refl _) ⟨id, id⟩ ?_ ?_ ?_⟩⟩
    · exact fun i H' h lt => ⟨xs, xs[i], h.1 hx, List.getElem?_eq_getElem lt⟩
    · rintro i H' v H'' h lt ⟨rfl, y⟩
      exact ⟨Same.refl _, y xs (h.1 hx)⟩
    · exact fun H' h => ⟨xs, h.1 hx, Nat.le_refl _⟩
  · refine ha _ ⟨a, xs, rfl, Or.inr ⟨hx, r _ _ (Same.refl _) ⟨id, id⟩ ?_ ?_ ?_⟩⟩
    · exact fun i H' h lt => ⟨xs, xs[i], h.2 hx, List.getElem?_eq_getElem lt⟩
    · rintro i H' v H'' h lt ⟨rfl, y⟩
      exact ⟨Same.refl _, y xs (h.2 hx)⟩
    · exact fun H' h => ⟨xs, h.2 hx, Nat.le_refl _⟩
theorem tells_rng {σ : St} {H : Hp} {ta : TA} {n : Nat} (ha : ∀ Q : List V → Hp → Prop, (∀ H1, Same H H1 → Q [.int (n : Int)] H1) → ta σ H Q) (hn : n ≤ 100000) :
    Tells1 (iRng1 ta) σ H n (fun i v _ => v = .int (i : Int)) fun _ => True := by
  intro R r
  refine ha _ fun H1 e1 => ⟨(n : Int), rfl, by omega, by omega, r _ _ e1 trivial ?_ ?_ ?_⟩
  · intro i H' _ lt
    show i < ((n : Int)).toNat
    omega
  · rintro i H' v H'' _ lt ⟨rfl, rfl⟩
    exact ⟨Same.refl _, congrArg V.int (Int.zero_add _)⟩
  · intro H' _
    show ((n : Int)).toNat ≤ n
    omega

/-- a list or tuple that is made or found there -/
theorem tells2_lst {K : PySem.W.Frag} {σ : St} {H : Hp} {te : TE} {xs : List V} (ha : ∀ Q : VK, (∀ a H1, Same H H1 → SqL K H1 a xs → Q (.ref a) H1) → te σ H Q) : Tells2 (iList K te) σ H xs.length fun i v _ => xs[i]? = some v := by
  intro R r
  refine ha _ fun a H1 e1 hx => ⟨a, rfl, ⟨xs, hx⟩, r _ _ (fun H' => SqL K H' a xs) stay_lst e1 hx ?_ ?_ ?_⟩
  · exact fun i H' h lt => ⟨xs, xs[i], h, List.getElem?_eq_getElem lt⟩
  · rintro i H' v H'' h lt ⟨rfl, y⟩
    exact ⟨Same.refl _, y xs h⟩
  · exact fun H' h => ⟨xs, h, Nat.le_refl _⟩
theorem tells2_tup {K : PySem.W.Frag} {σ : St} {H : Hp} {te : TE} {xs : List V} (ha : ∀ Q : VK, (∀ a H1, Same H H1 → SqT K H1 a xs → Q (.ref a) H1) → te σ H Q) : Tells2 (iTup K te) σ H xs.length fun i v _ => xs[i]? = some v := by
  intro R r
  refine ha _ fun a H1 e1 hx => ⟨a, rfl, ⟨xs, hx⟩, r _ _ (fun H' => SqT K H' a xs) stay_tup e1 hx ?_ ?_ ?_⟩
  · exact fun i H' h lt => ⟨xs, xs[i], h, List.getElem?_eq_getElem lt⟩
  · rintro i H' v H'' h lt ⟨rfl, y⟩
    exact ⟨Same.refl _, y xs h⟩
  · exact fun H' h => ⟨xs, h, Nat.le_refl _⟩
/-! ### loops -/
/-- for target in iter: body -/
theorem for_any {wi : TI} {g : TG} {tb : TS} {D : Ends} {σ : St} {H : Hp} {n : Nat} {It : Nat → V → Hp → Prop} {S : Hp → Prop} (Pv : Nat → St → Hp → Prop) (hw : Tells1 wi σ H n It S)
    (h0 : ∀ H1, Same H H1 → S H1 → Pv 0 σ H1) (keep : ∀ i σ' H', Pv i σ' H' → S H')
    (step : ∀ i x σ' H' H'', i < n → Pv i σ' H' → Same H' H'' → It i x H'' → g x σ' H'' fun σ2 H2 => tb { D with nx := Pv (i + 1), ct := Pv (i + 1), bk := D.nx } σ2 H2)
    (fin : ∀ σ' H', Pv n σ' H' → D.nx σ' H') : tFor wi g tb D σ H := by
  refine hw _ fun J H1 e1 s1 go yld stop => ⟨fun i m σ' H' => m = n - i ∧ i ≤ n ∧ Pv i σ' H', ⟨n, rfl, Nat.zero_le _, h0 H1 e1 s1⟩, ?_⟩
  rintro i m σ' H' ⟨rfl, hi, p⟩
  rcases Nat.lt_or_ge i n with lt | ge
  · refine Or.inr ⟨go i H' (keep _ _ _ p) lt, Pv (i + 1), fun σ'' H'' p' => ⟨n - (i + 1), by omega, rfl, lt, p'⟩, fun x H'' y => ?_⟩
    obtain ⟨e3, it⟩ := yld i H' x H'' (keep _ _ _ p) lt y
    exact step i x σ' H' H'' lt p e3 it
  · obtain rfl : i = n := by omega
    exact Or.inl ⟨stop H' (keep _ _ _ p), fin σ' H' p⟩

/-! ### {c: True for c in cells} -/
theorem dc_set {wi : TI} {j : Nat} {vs : List Nat} {σ : St} {H : Hp} {Q : VK} {xs : List V} {S : List (List Int)} {St' : Hp → Prop} (hw : Tells1 wi σ H xs.length (fun i v _ => xs[i]? = some v) St')
    (hS : ∀ H' H'', St' H' → Same H' H'' → St' H'') (hj : ((wipe σ vs).set j (some .non))[j]? = some (some .non)) (hv : ∀ x, wipe ((wipe σ vs).set j (some x)) vs = wipe σ vs) (hx : DtAll H xs (S.map ceD)) (hz : xs.length ≤ 100000)
    (k : ∀ (D : Addr) (H' : Hp), H D = none → Same H H' → H' D = some (.dT (cdE (once S))) → Q (.ref D) H') : tDcT wi (gName j) tYes (tVar j) (tC (.bl true)) vs σ H Q := by
  refine hw _ fun J H1 e1 s1 go yld stop D hD => ?_
  have hD0 := same_free e1 hD
  have sl : xs.length = S.length := by rw [hx.length, List.length_map]
  refine ⟨fun i m H' => m = xs.length - i ∧ i ≤ xs.length ∧ Same H1 H' ∧ H' D = some (.dT (cdE (once (S.take i)))), ⟨xs.length, rfl, Nat.zero_le _, sameNew hD, upd_same⟩, ?_⟩
  rintro i m H' ⟨rfl, hi, e2, h2⟩
  have sH := hS _ _ s1 e2
  rcases Nat.lt_or_ge i xs.length with lt | ge
  · refine Or.inr ⟨go i H' sH lt, fun H'' => Same H1 H'' ∧ H'' D = some (.dT (cdE (once (S.take (i + 1))))), fun H'' p' => ⟨xs.length - (i + 1), by omega, rfl, lt, p'.1, p'.2⟩, fun x H'' y => ?_⟩
    obtain ⟨e3, it⟩ := yld i H' x H'' sH lt y
    refine ⟨hv x, ?_⟩
    show ∃ v, _ ∧ _
    obtain ⟨d, hd, dx⟩ := ((hx.same e1).same e2).same e3 |>.at it
    rw [List.getElem?_map] at hd
    obtain ⟨c, hc, rfl⟩ := Option.map_eq_some_iff.mp hd
    obtain ⟨t, rfl, ht⟩ := dx.cell
    have hl := once_len (S.take i)
    rw [List.length_take] at hl
    refine ⟨.ref t, ?_, cdE (once (S.take i)), cK c, t, rfl, by rw [cK_v]; exact ht, e3 _ _ h2, ?_, ?_, ?_⟩
    · rw [List.getElem?_set_self]
      rcases Nat.lt_or_ge j (wipe σ vs).length with q | q
      · exact q
      · rw [List.getElem?_eq_none (by rw [List.length_set]; exact q)] at hj
        cases hj
    · rw [List.length_map, sizeLine_eq]
      omega
    · exact same_mut (e2.trans e3) hD
    · rw [upd_same, put_cd]
      have : S.take (i + 1) = S.take i ++ [c] := by
        rw [List.take_add_one, hc]
        rfl
      rw [this]
      unfold once
      rw [foldC_snoc]
  · obtain rfl : i = xs.length := by omega
    refine Or.inl ⟨stop H' sH, k D H' hD0 (e1.trans e2) ?_⟩
    rw [h2, sl, List.take_length]

/-! ### peeling -/
theorem go_cb1 {r : List V → Hp → VK → Prop} {te : TE} {σ : St} {H : Hp} {Q : VK} (h : te σ H fun x H1 => r [x] H1 Q) : tCB r (tCons te tNil) σ H Q := h
theorem go_cs1 {sp : Sp} {E : St → XK} {te : TE} {σ : St} {H : Hp} {Q : VK} (h : te σ H fun x H1 => sp [x] H1 Q (E σ)) : tCallS sp E (tCons te tNil) σ H Q := h
theorem go_op {r : R2} {ta tb : TE} {σ : St} {H : Hp} {Q : VK} (h : ta σ H fun x H1 => tb σ H1 fun y H2 => r x y H2 Q) : tOp r ta tb σ H Q := h
theorem Dt.tup_at {H : Hp} {a : Addr} {ds : List PyData} (h : Dt H (.ref a) (.tuple ds)) : ∃ xs, H a = some (.tup xs) ∧ DtAll H xs ds := by
  cases h with
  | tup e ha => exact ⟨_, e, ha⟩
theorem Dt.tup_ref {H : Hp} {v : V} {ds : List PyData} (h : Dt H v (.tuple ds)) : ∃ a xs, v = .ref a ∧ H a = some (.tup xs) ∧ DtAll H xs ds := by
  cases h with
  | tup e ha => exact ⟨_, _, rfl, e, ha⟩
theorem Dt.lst_ref {H : Hp} {v : V} {ds : List PyData} (h : Dt H v (.list ds)) : ∃ a xs, v = .ref a ∧ H a = some (.lst xs) ∧ DtAll H xs ds := by
  cases h with
  | lst e ha => exact ⟨_, _, rfl, e, ha⟩
theorem DtAll.bools {H : Hp} : ∀ {bs : List Bool} {vs : List V}, DtAll H vs (bs.map PyData.bool) → vs = bs.map V.bl
  | [], _, h => by cases h; rfl
  | b :: bs, _, h => by
    cases h with
    | cons a t =>
      cases a
      rw [t.bools]
      rfl
theorem told_all (n : Nat) (f : Nat → PyData) : told n (fun _ => true) f = (List.range n).map f := by
  unfold told
  rw [List.filter_eq_self.mpr fun _ _ => rfl]
theorem range_getD {α : Type} (ds : List α) (d0 : α) (g : α → PyData) : ((List.range ds.length).map fun i => g (ds.getD i d0)) = ds.map g := by
  apply List.ext_getElem?
  intro i
  rw [List.getElem?_map, List.getElem?_map]
  rcases Nat.lt_or_ge i ds.length with h | h
  · rw [List.getElem?_range h, List.getElem?_eq_getElem h]
    simp [List.getD_eq_getElem?_getD, List.getElem?_eq_getElem h]
  · rw [List.getElem?_eq_none (by rw [List.length_range]; exact h), List.getElem?_eq_none h]
    rfl
theorem weight_all {ds : List PyData} : ds.length ≤ PyData.weightAll ds := by
  induction ds with
  | nil => exact Nat.zero_le _
  | cons d ds ih =>
    show ds.length + 1 ≤ d.weight + 1 + PyData.weightAll ds
    omega
theorem pu_ints (c : List Int) : puAll (c.map PyData.int) = true := puAll_of fun d hd => by
  obtain ⟨x, _, rfl⟩ := List.mem_map.mp hd
  rfl
theorem pu_cell (c : List Int) : pu (ceD c) = true := pu_ints c
end Cl

/-! LayG: parts of a set of cells: what hangs together. No program in sight. -/
namespace Cl
open PySem PySem.Spec
open PyProof.Rows hiding St
open L2

theorem addv_comm (a b : List Int) : addv a b = addv b a := by
  unfold addv
  induction a generalizing b with
  | nil => cases b <;> rfl
  | cons x a ih =>
    cases b with
    | nil => rfl
    | cons y b =>
      rw [List.zipWith_cons_cons, List.zipWith_cons_cons, ih, Int.add_comm]
theorem addv_back : ∀ {a s : List Int}, s.length = a.length → addv (addv a s) (s.map (- ·)) = a
  | [], [], _ => rfl
  | [], _ :: _, h => by cases h
  | _ :: _, [], h => by cases h
  | x :: a, y :: s, h => by
    have ih := addv_back (a := a) (s := s) (by simpa using h)
    unfold addv at ih ⊢
    rw [List.zipWith_cons_cons, List.map_cons, List.zipWith_cons_cons, ih]
    congr 1
    show x + y + -y = x
    omega
theorem stp_neg {n : Nat} (h : Dm n) : ∀ s ∈ stp n, s.map (- ·) ∈ stp n := by
  rcases h with rfl | rfl | rfl <;> decide
theorem addv_len {a s : List Int} (h : s.length = a.length) : (addv a s).length = a.length := by
  unfold addv
  rw [List.length_zipWith, h, Nat.min_self]
theorem nbr_symm {c d : List Int} (hc : Dm c.length) (h : d ∈ nbr c) : c ∈ nbr d := by
  obtain ⟨s, hs, rfl⟩ := List.mem_map.mp h
  have l := stp_len hc s hs
  unfold nbr
  rw [addv_len l]
  exact List.mem_map.mpr ⟨_, stp_neg hc s hs, addv_back l⟩

/-- from a to b by steps within S -/
inductive Reach (S : List (List Int)) (a : List Int) : List Int → Prop
  | refl : Reach S a a
  | step {b c : List Int} : Reach S a b → c ∈ nbr b → c ∈ S → Reach S a c
theorem Reach.mem {S : List (List Int)} {a b : List Int} (h : Reach S a b) (ha : a ∈ S) : b ∈ S := by
  cases h with
  | refl => exact ha
  | step _ _ h => exact h
theorem Reach.mono {S S' : List (List Int)} {a b : List Int} (h : Reach S a b) (k : ∀ x ∈ S, x ∈ S') : Reach S' a b := by
  induction h with
  | refl => exact .refl
  | step _ h2 h3 ih => exact .step ih h2 (k _ h3)
open Classical in
/-- the part of S in which a lies, in its order -/
noncomputable def comp (S : List (List Int)) (a : List Int) : List (List Int) := srt (S.filter fun b => decide (Reach S a b))
open Classical in
theorem mem_comp {S : List (List Int)} {a b : List Int} : b ∈ comp S a ↔ b ∈ S ∧ Reach S a b := by
  unfold comp
  rw [mem_srt, List.mem_filter, decide_eq_true_iff]
open Classical in
theorem comp_eq {S F : List (List Int)} {a : List Int} (hS : S.Nodup) (hF : F.Nodup) (h1 : ∀ x ∈ F, x ∈ S ∧ Reach S a x) (ha : a ∈ F) (h2 : ∀ x ∈ F, ∀ y ∈ nbr x, y ∈ S → y ∈ F) : srt F = comp S a := by
  refine srt_congr ((List.perm_ext_iff_of_nodup hF (hS.sublist List.filter_sublist)).mpr fun x => ?_)
  rw [List.mem_filter, decide_eq_true_iff]
  refine ⟨h1 x, fun h => ?_⟩
  obtain ⟨_, hr⟩ := h
  induction hr with
  | refl => exact ha
  | step h1' h2' h3 ih => exact h2 _ (ih ((h1'.mem (h1 a ha).1))) _ h2' h3
/-- a part of a closed rest is a part of the whole -/
theorem comp_rest {S L : List (List Int)} {c : List Int} (hS : S.Nodup) (hL : L.Nodup) (sub : ∀ x ∈ L, x ∈ S) (cl : ∀ x ∈ L, ∀ y ∈ nbr x, y ∈ S → y ∈ L) (hc : c ∈ L) : comp L c = comp S c := by
  have h : srt (comp L c) = comp S c := by
    refine comp_eq hS ?_ (fun x hx => ?_) (mem_comp.mpr ⟨hc, .refl⟩) (fun x hx y hy hyS => ?_)
    · exact (srt_perm _).nodup_iff.mpr (hL.sublist List.filter_sublist)
    · obtain ⟨h1, h2⟩ := mem_comp.mp hx
      exact ⟨sub x h1, h2.mono sub⟩
    · obtain ⟨h1, h2⟩ := mem_comp.mp hx
      have := cl x h1 y hy hyS
      exact mem_comp.mpr ⟨this, .step h2 hy this⟩
  rw [← h]
  exact srt_eq (List.Perm.refl _) (srt_srt _)
/-- the rest behind a part is closed -/
theorem rest_closed {S L L' : List (List Int)} {c : List Int} (dm : ∀ x ∈ S, Dm x.length) (sub : ∀ x ∈ L, x ∈ S) (cl : ∀ x ∈ L, ∀ y ∈ nbr x, y ∈ S → y ∈ L)
    (h : ∀ x, x ∈ L' ↔ x ∈ L ∧ x ∉ comp L c) : ∀ x ∈ L', ∀ y ∈ nbr x, y ∈ S → y ∈ L' := by
  intro x hx y hy hyS
  obtain ⟨h1, h2⟩ := (h x).mp hx
  have hyL := cl x h1 y hy hyS
  refine (h y).mpr ⟨hyL, fun z => h2 ?_⟩
  obtain ⟨_, r⟩ := mem_comp.mp z
  exact mem_comp.mpr ⟨h1, .step r (nbr_symm (dm x (sub x h1)) hy) h1⟩
/-- the parts met so far, and one cell more -/
noncomputable def metC (S : List (List Int)) (acc : List (List (List Int))) (c : List Int) : List (List (List Int)) := open Classical in if ∃ p ∈ acc, c ∈ p then acc else acc ++ [comp S c]
noncomputable def partsC (S : List (List Int)) : List (List (List Int)) := (srt S).foldl (metC S) []
theorem metC_old {S : List (List Int)} {acc : List (List (List Int))} {c : List Int} (h : ∃ p ∈ acc, c ∈ p) : metC S acc c = acc := if_pos h
theorem metC_new {S : List (List Int)} {acc : List (List (List Int))} {c : List Int} (h : ¬ ∃ p ∈ acc, c ∈ p) : metC S acc c = acc ++ [comp S c] := if_neg h
theorem mets_snoc (S L : List (List Int)) (c : List Int) : (L ++ [c]).foldl (metC S) [] = metC S (L.foldl (metC S) []) c := by rw [List.foldl_append]; rfl
abbrev partD (p : List (List Int)) : PyData := .tuple (p.map ceD)
theorem mets_len' (S : List (List Int)) : ∀ (L : List (List Int)) (acc : List (List (List Int))), (L.foldl (metC S) acc).length ≤ acc.length + L.length
  | [], _ => Nat.le_refl _
  | c :: L, acc => by
    have h1 := mets_len' S L (metC S acc c)
    have h2 : (metC S acc c).length ≤ acc.length + 1 := by
      unfold metC
      split
      · exact Nat.le_succ _
      · rw [List.length_append]
        exact Nat.le_refl _
    rw [List.foldl_cons, List.length_cons]
    omega
theorem mets_len (S L : List (List Int)) : (L.foldl (metC S) []).length ≤ L.length := by
  have := mets_len' S L []
  simpa using this
theorem comp_len (S : List (List Int)) (a : List Int) : (comp S a).length ≤ S.length := by
  unfold comp
  rw [srt_len]
  exact List.length_filter_le _ _

/-! ### the search that takes a part out -/
/-- F found, T to be done, Lf left over of L, from c -/
structure DI (L : List (List Int)) (c : List Int) (F T Lf : List (List Int)) : Prop where
  nd : (F ++ T).Nodup
  inn : ∀ x ∈ F ++ T, x ∈ L ∧ Reach L c x
  root : c ∈ F ++ T
  lf : ∀ x, x ∈ Lf ↔ x ∈ L ∧ x ∉ F ++ T
  lnd : Lf.Nodup
theorem DI.start {L : List (List Int)} {c : List Int} (hL : L.Nodup) (hc : c ∈ L) : DI L c [] [c] (L.filter fun d => decide (d ≠ c)) where
  nd := by simp
  inn := fun x hx => by
    have : x = c := by simpa using hx
    rw [this]
    exact ⟨hc, .refl⟩
  root := by simp
  lf := fun x => by rw [List.mem_filter]; simp
  lnd := hL.sublist List.filter_sublist
theorem mem_pop {F T : List (List Int)} {x y : List Int} : y ∈ (F ++ [x]) ++ T ↔ y ∈ F ++ (T ++ [x]) := by
  rw [List.mem_append, List.mem_append, List.mem_append, List.mem_append, or_assoc]
  exact ⟨fun h => h.elim .inl fun h => .inr h.symm, fun h => h.elim .inl fun h => .inr h.symm⟩
theorem nodup_len : ∀ {A B : List (List Int)}, A.Nodup → (∀ x ∈ A, x ∈ B) → A.length ≤ B.length
  | [], _, _, _ => Nat.zero_le _
  | a :: A, B, h, s => by
    obtain ⟨h1, h2⟩ := List.nodup_cons.mp h
    have hb := s a List.mem_cons_self
    have ih := nodup_len (B := B.erase a) h2 fun x hx => (List.mem_erase_of_ne fun e => h1 (by rw [← e]; exact hx)).mpr (s x (List.mem_cons_of_mem _ hx))
    rw [List.length_erase_of_mem hb] at ih
    have := List.length_pos_of_mem hb
    rw [List.length_cons]
    omega
theorem DI.pop {L : List (List Int)} {c x : List Int} {F T Lf : List (List Int)} (h : DI L c F (T ++ [x]) Lf) : DI L c (F ++ [x]) T Lf where
  nd := by
    have p : ((F ++ [x]) ++ T).Perm (F ++ (T ++ [x])) := by
      rw [List.append_assoc]
      exact List.Perm.append_left F (List.perm_append_comm)
    exact p.nodup_iff.mpr h.nd
  inn := fun y hy => h.inn y (mem_pop.mp hy)
  root := mem_pop.mpr h.root
  lf := fun y => by rw [h.lf y, mem_pop]
  lnd := h.lnd
theorem DI.add {L : List (List Int)} {c x y : List Int} {F T Lf : List (List Int)} (h : DI L c F T Lf) (hy : y ∈ Lf) (hx : x ∈ F) (hn : y ∈ nbr x) : DI L c F (T ++ [y]) (Lf.filter fun d => decide (d ≠ y)) where
  nd := by
    rw [← List.append_assoc]
    refine List.nodup_append.mpr ⟨h.nd, by simp, fun a ha b hb e => ?_⟩
    rw [List.mem_singleton.mp hb] at e
    rw [e] at ha
    exact ((h.lf y).mp hy).2 ha
  inn := fun z hz => by
    rw [← List.append_assoc] at hz
    rcases List.mem_append.mp hz with hz | hz
    · exact h.inn z hz
    · rw [List.mem_singleton.mp hz]
      have hl := ((h.lf y).mp hy).1
      exact ⟨hl, .step (h.inn x (List.mem_append_left _ hx)).2 hn hl⟩
  root := by
    rw [← List.append_assoc]
    exact List.mem_append_left _ h.root
  lf := fun z => by
    rw [List.mem_filter, h.lf z, ← List.append_assoc, List.mem_append (t := [y]), List.mem_singleton, decide_eq_true_iff]
    constructor
    · rintro ⟨⟨a, b⟩, e⟩
      exact ⟨a, fun q => q.elim b e⟩
    · rintro ⟨a, b⟩
      exact ⟨⟨a, fun q => b (.inl q)⟩, fun q => b (.inr q)⟩
  lnd := h.lnd.sublist List.filter_sublist
/-- the neighbours in L of those of F stand in G -/
def Clo (L F G : List (List Int)) : Prop := ∀ f ∈ F, ∀ y ∈ nbr f, y ∈ L → y ∈ G
theorem DI.fin {L : List (List Int)} {c : List Int} {F Lf : List (List Int)} (hL : L.Nodup) (h : DI L c F [] Lf) (cl : Clo L F (F ++ [])) : srt F = comp L c ∧ ∀ x, x ∈ Lf ↔ x ∈ L ∧ x ∉ comp L c := by
  have hF : F ++ [] = F := List.append_nil F
  have e : srt F = comp L c := by
    refine comp_eq hL (by rw [← hF]; exact h.nd) (fun x hx => h.inn x (by rw [hF]; exact hx)) (by rw [← hF]; exact h.root) fun x hx y hy hl => ?_
    have := cl x hx y hy hl
    rwa [hF] at this
  refine ⟨e, fun x => ?_⟩
  rw [h.lf x, hF, ← e, mem_srt]
theorem DI.len {L : List (List Int)} {c : List Int} {F T Lf : List (List Int)} (h : DI L c F T Lf) : F.length + T.length ≤ L.length := by
  have := nodup_len h.nd fun x hx => (h.inn x hx).1
  rwa [List.length_append] at this

/-! ### heaps: writes of lists and dicts -/
theorem tk_w {H : Hp} {a : Addr} {u o : HO} (h : H a = some u) (hu : ∀ xs, u ≠ .tup xs) : Tk H (upd H a o) := fun b xs e => by
  rw [upd_ne (fun z => by rw [z, h] at e; exact hu xs (Option.some.inj e))]
  exact e
theorem tk_l {H : Hp} {a : Addr} {xs : List V} {o : HO} (h : H a = some (.lst xs)) : Tk H (upd H a o) := tk_w h fun _ z => by cases z
theorem tk_d {H : Hp} {a : Addr} {kvs : List (List Key × V)} {o : HO} (h : H a = some (.dT kvs)) : Tk H (upd H a o) := tk_w h fun _ z => by cases z
theorem tk_same {H H' : Hp} (e : Same H H') : Tk H H' := fun a xs h => e a _ h
theorem cells_tk {H H' : Hp} {vs : List V} {S : List (List Int)} (k : Tk H H') (h : DtAll H vs (S.map ceD)) : DtAll H' vs (S.map ceD) := h.tk k (puAll_of fun d hd => by
  obtain ⟨c, _, rfl⟩ := List.mem_map.mp hd
  exact pu_cell c)
theorem cell_tk {H H' : Hp} {v : V} {c : List Int} (k : Tk H H') (h : Dt H v (ceD c)) : Dt H' v (ceD c) := h.tk k (pu_cell c)
theorem But.new {l a : Addr} {H H' : Hp} {o : HO} (h : But l H H') (n : H a = none) : But l H (upd H' a o) := fun b u e ne => by
  rw [upd_ne (ne_of_none e n)]
  exact h b u e ne
theorem But.at {l : Addr} {H H' : Hp} {o : HO} (h : But l H H') : But l H (upd H' l o) := fun b u e ne => by
  rw [upd_ne ne]
  exact h b u e ne
theorem But.same {l : Addr} {H H' H2 : Hp} (h : But l H H') (e : Same H' H2) : But l H H2 := fun b u z ne => e _ _ (h b u z ne)
theorem ne_ld {H : Hp} {a b : Addr} {xs : List V} {kvs : List (List Key × V)} (h : H a = some (.lst xs)) (g : H b = some (.dT kvs)) : a ≠ b := fun z => by
  rw [z, g] at h
  cases h
theorem ne_lt {H : Hp} {a b : Addr} {xs ys : List V} (h : H a = some (.lst xs)) (g : H b = some (.tup ys)) : a ≠ b := fun z => by
  rw [z, g] at h
  cases h
theorem ne_dt {H : Hp} {a b : Addr} {kvs : List (List Key × V)} {ys : List V} (h : H a = some (.dT kvs)) (g : H b = some (.tup ys)) : a ≠ b := fun z => by
  rw [z, g] at h
  cases h
theorem dget_c {H : Hp} {d t : Addr} {S : List (List Int)} {c : List Int} (h : H d = some (.dT (cdE S))) (ht : H t = some (.tup (c.map V.int))) : DGet H d (.ref t) (if c ∈ S then some (.bl true) else none) := by
  have q := DGet.t (k := cK c) h (by rw [cK_v]; exact ht)
  rwa [val_cd] at q
theorem dput_c {H : Hp} {d t : Addr} {S : List (List Int)} {c : List Int} (h : H d = some (.dT (cdE S))) (ht : H t = some (.tup (c.map V.int))) (hz : S.length ≤ 100000) :
    DPut H d (.ref t) (.bl true) (upd H d (.dT (cdE (addC S c)))) := by
  have q := DPut.t (k := cK c) (v := .bl true) h (by rw [cK_v]; exact ht) (by rw [List.length_map, sizeLine_eq]; omega)
  rwa [put_cd] at q
theorem some_ite {α : Type} {p : Prop} [Decidable p] {x : α} : (if p then some x else none : Option α).isSome = decide p := by
  by_cases h : p <;> simp [h]
theorem last_snoc {α : Type} {xs : List α} (h : xs ≠ []) : ∃ ys y, xs = ys ++ [y] := ⟨xs.dropLast, xs.getLast h, (List.dropLast_concat_getLast h).symm⟩
theorem cells_snoc {H : Hp} {vs : List V} {T : List (List Int)} {x : List Int} (h : DtAll H vs ((T ++ [x]).map ceD)) : ∃ ws v, vs = ws ++ [v] ∧ DtAll H ws (T.map ceD) ∧ Dt H v (ceD x) := by
  have hl := h.length
  rw [List.length_map, List.length_append, List.length_singleton] at hl
  obtain ⟨ws, v, rfl⟩ := last_snoc (xs := vs) (fun z => by rw [z] at hl; simp at hl)
  rw [List.length_append, List.length_singleton] at hl
  refine ⟨ws, v, rfl, ?_, ?_⟩
  · have q := h.take T.length
    rw [List.take_append_of_le_length (by omega), List.take_of_length_le (by omega), List.map_append, List.take_append_of_le_length (by rw [List.length_map]; omega), List.take_of_length_le (by rw [List.length_map]; omega)] at q
    exact q
  · have q := h.drop T.length
    rw [List.drop_append_of_le_length (by omega), List.drop_of_length_le (by omega), List.map_append, List.drop_append_of_le_length (by rw [List.length_map]; omega), List.drop_of_length_le (by rw [List.length_map]; omega)] at q
    cases q with
    | cons a b => exact a
theorem ints_inj : ∀ {a b : List Int}, a.map PyData.int = b.map PyData.int → a = b
  | [], [], _ => rfl
  | [], _ :: _, h => by simp at h
  | _ :: _, [], h => by simp at h
  | x :: a, y :: b, h => by
    rw [List.map_cons, List.map_cons] at h
    obtain ⟨h1, h2⟩ := List.cons.inj h
    rw [PyData.int.inj h1, ints_inj h2]
theorem ceD_inj {a b : List Int} (h : ceD a = ceD b) : a = b := ints_inj (PyData.tuple.inj h)
end Cl

/-! LayT: the heap in the search that takes a part out of a set. -/
namespace Cl
open PySem PySem.Spec
open PyProof.Rows hiding St
open L2

structure TkS (H : Hp) (l fa ta : Addr) (L : List (List Int)) (c : List Int) (F T Lf : List (List Int)) (H' : Hp) : Prop where
  but : But l H H'
  left : H' l = some (.dT (cdE Lf))
  nf : H fa = none
  nt : H ta = none
  ne : fa ≠ ta
  fnd : ∃ fvs, H' fa = some (.lst fvs) ∧ DtAll H' fvs (F.map ceD)
  tod : ∃ tvs, H' ta = some (.lst tvs) ∧ DtAll H' tvs (T.map ceD)
  di : DI L c F T Lf
section
variable {H H' H2 : Hp} {l fa ta : Addr} {L F T Lf : List (List Int)} {c x y : List Int}
theorem TkS.same (h : TkS H l fa ta L c F T Lf H') (e : Same H' H2) : TkS H l fa ta L c F T Lf H2 := by
  obtain ⟨fvs, f1, f2⟩ := h.fnd
  obtain ⟨tvs, t1, t2⟩ := h.tod
  exact ⟨h.but.same e, e _ _ h.left, h.nf, h.nt, h.ne, ⟨fvs, e _ _ f1, f2.same e⟩, ⟨tvs, e _ _ t1, t2.same e⟩, h.di⟩
/-- todo.pop(), found.append(..) -/
theorem TkS.pop (h : TkS H l fa ta L c F (T ++ [x]) Lf H') : ∃ ws v fvs, H' ta = some (.lst (ws ++ [v])) ∧ Dt H' v (ceD x) ∧ H' fa = some (.lst fvs) ∧ fvs.length = F.length ∧
    TkS H l fa ta L c (F ++ [x]) T Lf (upd (upd H' ta (.lst ws)) fa (.lst (fvs ++ [v]))) ∧ Tk H' (upd (upd H' ta (.lst ws)) fa (.lst (fvs ++ [v]))) := by
  obtain ⟨fvs, f1, f2⟩ := h.fnd
  obtain ⟨tvs, t1, t2⟩ := h.tod
  obtain ⟨ws, v, rfl, w1, w2⟩ := cells_snoc t2
  have k1 : Tk H' (upd H' ta (.lst ws)) := tk_l t1
  have f1' : (upd H' ta (.lst ws)) fa = some (.lst fvs) := by rw [upd_ne h.ne]; exact f1
  have k2 : Tk (upd H' ta (.lst ws)) (upd (upd H' ta (.lst ws)) fa (.lst (fvs ++ [v]))) := tk_l f1'
  have kk := k1.trans k2
  refine ⟨ws, v, fvs, t1, w2, f1, by rw [f2.length, List.length_map], ⟨(h.but.new h.nt).new h.nf, ?_, h.nf, h.nt, h.ne, ⟨_, upd_same, ?_⟩, ⟨ws, ?_, cells_tk kk w1⟩, h.di.pop⟩, kk⟩
  · rw [upd_ne (Ne.symm (ne_ld f1 h.left)), upd_ne (Ne.symm (ne_ld t1 h.left))]
    exact h.left
  · rw [List.map_append]
    exact (cells_tk kk f2).append (.cons (cell_tk kk w2) .nil)
  · rw [upd_ne (Ne.symm h.ne), upd_same]
/-- del left[..], todo.append(..) -/
theorem TkS.add {v : V} (h : TkS H l fa ta L c F T Lf H') (hv : Dt H' v (ceD y)) (hy : y ∈ Lf) (hx : x ∈ F) (hn : y ∈ nbr x) : ∃ tvs, H' ta = some (.lst tvs) ∧ tvs.length = T.length ∧ ta ≠ l ∧
    TkS H l fa ta L c F (T ++ [y]) (Lf.filter fun d => decide (d ≠ y)) (upd (upd H' l (.dT (cdE (Lf.filter fun d => decide (d ≠ y))))) ta (.lst (tvs ++ [v]))) ∧
    Tk H' (upd (upd H' l (.dT (cdE (Lf.filter fun d => decide (d ≠ y))))) ta (.lst (tvs ++ [v]))) := by
  obtain ⟨fvs, f1, f2⟩ := h.fnd
  obtain ⟨tvs, t1, t2⟩ := h.tod
  have ntl : ta ≠ l := ne_ld t1 h.left
  have k1 : Tk H' (upd H' l (.dT (cdE (Lf.filter fun d => decide (d ≠ y))))) := tk_d h.left
  have t1' : (upd H' l (.dT (cdE (Lf.filter fun d => decide (d ≠ y))))) ta = some (.lst tvs) := by rw [upd_ne ntl]; exact t1
  have k2 := k1.trans (tk_l (o := .lst (tvs ++ [v])) t1')
  refine ⟨tvs, t1, by rw [t2.length, List.length_map], ntl, ⟨(h.but.at).new h.nt, ?_, h.nf, h.nt, h.ne, ⟨fvs, ?_, cells_tk k2 f2⟩, ⟨_, upd_same, ?_⟩, h.di.add hy hx hn⟩, k2⟩
  · rw [upd_ne (Ne.symm ntl), upd_same]
  · rw [upd_ne h.ne, upd_ne (ne_ld f1 h.left)]
    exact f1
  · rw [List.map_append]
    exact (cells_tk k2 t2).append (.cons (cell_tk k2 hv) .nil)
end
theorem But.sameOf {l : Addr} {H H1 H2 : Hp} (e : Same H H1) (b : But l H1 H2) (n : H l = none) : Same H H2 := fun a u h => b a u (e a u h) (ne_of_none h n)
theorem SqA.same {K : PySem.W.Frag} {H H' : Hp} {a : Addr} {xs : List V} (h : SqA K H a xs) (e : Same H H') : SqA K H' a xs := h.elim (fun h => .inl (SqL.same h e)) fun h => .inr (SqT.same h e)
theorem parts_dt {H H' : Hp} (k : Kd H H') {vs : List V} {ds : List PyData} (h : DtAll H vs ds) : DtAll H' vs ds := h.mono k
theorem go_par {i j : Nat} {ta tb : TE} {D : Ends} {σ : St} {H : Hp} (h : ta σ H fun x H1 => tb σ H1 fun y H2 => ∃ u v, [x, y] = [u, v] ∧ D.nx ((σ.set i (some u)).set j (some v)) H2) : tPar i j (tCons ta (tCons tb tNil)) D σ H := h
theorem pu_part (p : List (List Int)) : pu (partD p) = true := puAll_of fun d hd => by
  obtain ⟨c, _, rfl⟩ := List.mem_map.mp hd
  exact pu_cell c
theorem parts_tk {H H' : Hp} {vs : List V} {S : List (List (List Int))} (k : Tk H H') (h : DtAll H vs (S.map partD)) : DtAll H' vs (S.map partD) := h.tk k (puAll_of fun d hd => by
  obtain ⟨p, _, rfl⟩ := List.mem_map.mp hd
  exact pu_part p)
end Cl

/-! LayR: readings of operations, told of data. -/
namespace Cl
open PySem PySem.Spec
open PyProof.Rows hiding St
open L2

def cutD (ds : List PyData) (lo hi : Option Int) : List PyData := (ds.drop (HT.sIx ds.length 0 lo)).take (HT.sIx ds.length ds.length hi - HT.sIx ds.length 0 lo)
section
variable {K : PySem.W.Frag} {H : Hp} {x y : V} {ds es : List PyData} {d : PyData} {lo hi : Option Int} {Q : VK}
theorem slT_dt (hx : Dt H x (.tuple ds)) (k : ∀ v H', Same H H' → Dt H' v (.tuple (cutD ds lo hi)) → Q v H') : rSlA K x lo hi H Q := by
  obtain ⟨a, xs, rfl, ha, hd⟩ := hx.tup_ref
  have len := hd.length
  refine ⟨a, xs, rfl, SqT.of ha, fun h => ?_, fun _ p hp => ?_⟩
  · refine k _ _ (Same.refl _) ?_
    rw [len] at h
    have e : cutD ds lo hi = ds := by
      unfold cutD
      rw [h.1, h.2, List.drop_zero, Nat.sub_zero, List.take_length]
    rw [e]
    exact hx
  · exact k _ _ (sameNew hp) (.tup upd_same ((hd.cut lo hi).same (sameNew hp)))
theorem slL_dt (hx : Dt H x (.list ds)) (k : ∀ p H', H p = none → Same H H' → Dt H' (.ref p) (.list (cutD ds lo hi)) → Q (.ref p) H') : rSlL K x lo hi H Q := by
  obtain ⟨a, xs, rfl, ha, hd⟩ := hx.lst_ref
  exact ⟨a, xs, rfl, SqL.of ha, fun p hp => k p _ hp (sameNew hp) (.lst upd_same ((hd.cut lo hi).same (sameNew hp)))⟩
theorem catT_dt (hx : Dt H x (.tuple ds)) (hy : Dt H y (.tuple es)) (hz : ds.length + es.length ≤ 100000) (k : ∀ v H', Same H H' → Dt H' v (.tuple (ds ++ es)) → Q v H') : rCatA K x y H Q := by
  obtain ⟨a, xs, rfl, ha, hd⟩ := hx.tup_ref
  obtain ⟨b, ys, rfl, hb, he⟩ := hy.tup_ref
  have l1 := hd.length
  have l2 := he.length
  refine ⟨a, b, xs, ys, rfl, rfl, SqT.of ha, SqT.of hb, by rw [sizeLine_eq]; omega, fun z => ?_, fun _ z => ?_, fun _ _ p hp => ?_⟩
  · rw [z] at l1
    rw [List.eq_nil_of_length_eq_zero l1.symm, List.nil_append] at k
    exact k _ _ (Same.refl _) hy
  · rw [z] at l2
    rw [List.eq_nil_of_length_eq_zero l2.symm, List.append_nil] at k
    exact k _ _ (Same.refl _) hx
  · exact k _ _ (sameNew hp) (.tup upd_same ((hd.append he).same (sameNew hp)))
theorem cat_dt (hx : Dt H x (.list ds)) (hy : Dt H y (.list es)) (hz : ds.length + es.length ≤ 100000) (k : ∀ p H', H p = none → Same H H' → Dt H' (.ref p) (.list (ds ++ es)) → Q (.ref p) H') : rCat x y H Q := by
  obtain ⟨a, xs, rfl, ha, hd⟩ := hx.lst_ref
  obtain ⟨b, ys, rfl, hb, he⟩ := hy.lst_ref
  have l1 := hd.length
  have l2 := he.length
  exact ⟨a, b, xs, ys, rfl, rfl, ha, hb, by rw [sizeLine_eq]; omega, fun p hp => k p _ hp (sameNew hp) (.lst upd_same ((hd.append he).same (sameNew hp)))⟩
theorem ixT_dt {j : Nat} (hx : Dt H x (.tuple ds)) (hj : ds[j]? = some d) (k : ∀ v, Dt H v d → Q v H) : rIxT K x (.int (j : Int)) H Q := by
  obtain ⟨a, xs, rfl, ha, hd⟩ := hx.tup_ref
  obtain ⟨v, hv, hvd⟩ := hd.atD hj
  exact ⟨a, xs, _, v, rfl, rfl, SqT.of ha, atI_nat hv, k v hvd⟩
theorem ixL_dt {j : Nat} (hx : Dt H x (.list ds)) (hj : ds[j]? = some d) (k : ∀ v, Dt H v d → Q v H) : rIxL K x (.int (j : Int)) H Q := by
  obtain ⟨a, xs, rfl, ha, hd⟩ := hx.lst_ref
  obtain ⟨v, hv, hvd⟩ := hd.atD hj
  exact ⟨a, xs, _, v, rfl, rfl, SqL.of ha, atI_nat hv, k v hvd⟩
theorem tuple_dt (hx : Dt H x (.list ds)) (k : ∀ v H', Same H H' → Dt H' v (.tuple ds) → Q v H') : rTupleQ K [x] H Q := by
  obtain ⟨a, xs, rfl, ha, hd⟩ := hx.lst_ref
  exact ⟨a, xs, rfl, Or.inl ⟨SqL.of ha, fun l hl => k _ _ (sameNew hl) (.tup upd_same (hd.same (sameNew hl)))⟩⟩
theorem listL_dt (hx : Dt H x (.list ds)) (k : ∀ p H', H p = none → Same H H' → Dt H' (.ref p) (.list ds) → Q (.ref p) H') : rListQ K [x] H Q := by
  obtain ⟨a, xs, rfl, ha, hd⟩ := hx.lst_ref
  exact ⟨a, xs, rfl, Or.inl (SqL.of ha), fun l hl => k l _ hl (sameNew hl) (.lst upd_same (hd.same (sameNew hl)))⟩
theorem listT_dt (hx : Dt H x (.tuple ds)) (k : ∀ p H', H p = none → Same H H' → Dt H' (.ref p) (.list ds) → Q (.ref p) H') : rListQ K [x] H Q := by
  obtain ⟨a, xs, rfl, ha, hd⟩ := hx.tup_ref
  exact ⟨a, xs, rfl, Or.inr (SqT.of ha), fun l hl => k l _ hl (sameNew hl) (.lst upd_same (hd.same (sameNew hl)))⟩
theorem lenL_dt (hx : Dt H x (.list ds)) (k : Q (.int (ds.length : Int)) H) : rLenQ K [x] H Q := by
  obtain ⟨a, xs, rfl, ha, hd⟩ := hx.lst_ref
  refine ⟨a, xs, rfl, Or.inl (SqL.of ha), ?_⟩
  rw [hd.length]
  exact k
theorem lenT_dt (hx : Dt H x (.tuple ds)) (k : Q (.int (ds.length : Int)) H) : rLenQ K [x] H Q := by
  obtain ⟨a, xs, rfl, ha, hd⟩ := hx.tup_ref
  refine ⟨a, xs, rfl, Or.inr (SqT.of ha), ?_⟩
  rw [hd.length]
  exact k
end
theorem dt_tup {H : Hp} {vs : List V} {ds : List PyData} {p : Addr} (h : DtAll H vs ds) (hp : H p = none) : Dt (upd H p (.tup vs)) (.ref p) (.tuple ds) := .tup upd_same (h.same (sameNew hp))
theorem dt_lst {H : Hp} {vs : List V} {ds : List PyData} {p : Addr} (h : DtAll H vs ds) (hp : H p = none) : Dt (upd H p (.lst vs)) (.ref p) (.list ds) := .lst upd_same (h.same (sameNew hp))
theorem pu_lst {ds : List PyData} (h : puAll ds = true) : pu (.tuple ds) = true := h

/-! ### the neighbours, made one by one -/
def unitC (n k : Nat) (s : Int) : List Int := (List.replicate n 0).set k s
def mstp (n m : Nat) : List (List Int) := (List.range m).flatMap fun k => [unitC n k (-1), unitC n k 1]
theorem mstp_perm {n : Nat} (h : Dm n) : (mstp n n).Perm (stp n) := by
  rcases h with rfl | rfl | rfl <;> decide
theorem lex_addv : ∀ {c a b : List Int}, a.length = c.length → b.length = c.length → lexL (addv c a) (addv c b) = lexL a b
  | [], [], [], _, _ => rfl
  | [], _ :: _, _, h, _ => by cases h
  | [], _, _ :: _, _, h => by cases h
  | _ :: _, [], _, h, _ => by cases h
  | _ :: _, _, [], _, h => by cases h
  | x :: c, y :: a, z :: b, h1, h2 => by
    have ih := lex_addv (c := c) (a := a) (b := b) (by simpa using h1) (by simpa using h2)
    show (if x + y = x + z then lexL (addv c a) (addv c b) else decide (x + y < x + z)) = (if y = z then lexL a b else decide (y < z))
    rw [ih]
    by_cases e : y = z
    · rw [if_pos e, if_pos (by rw [e])]
    · rw [if_neg e, if_neg (by omega)]
      exact decide_eq_decide.mpr (by omega)
theorem stp_sorted {n : Nat} (h : Dm n) : (stp n).Pairwise fun a b => leL a b = true := by
  rcases h with rfl | rfl | rfl <;> decide
theorem srt_mstp {c : List Int} (h : Dm c.length) : srt ((mstp c.length c.length).map (addv c)) = nbr c := by
  have p : (nbr c).Perm ((mstp c.length c.length).map (addv c)) := ((mstp_perm h).map (addv c)).symm
  refine (srt_eq p ?_).symm
  refine List.pairwise_map.mpr ((stp_sorted h).imp_of_mem fun {a b} ha hb hab => ?_)
  unfold leL at *
  rw [lex_addv (stp_len h b hb) (stp_len h a ha)]
  exact hab
theorem addv_zero : ∀ c : List Int, addv c (List.replicate c.length 0) = c
  | [] => rfl
  | x :: c => by
    show (x + 0) :: addv c (List.replicate c.length 0) = x :: c
    rw [addv_zero c, Int.add_zero]
theorem addv_unit : ∀ {c : List Int} {k : Nat} {x s : Int}, c[k]? = some x → c.take k ++ [x + s] ++ c.drop (k + 1) = addv c (unitC c.length k s)
  | [], k, _, _, h => by simp at h
  | y :: c, 0, x, s, h => by
    have e : y = x := by simpa using h
    subst e
    show (y + s) :: c = (y + s) :: addv c (List.replicate c.length 0)
    rw [addv_zero]
  | y :: c, k + 1, x, s, h => by
    have h' : c[k]? = some x := by simpa using h
    have ih := addv_unit (s := s) h'
    show y :: (c.take k ++ [x + s] ++ c.drop (k + 1)) = (y + 0) :: addv c (unitC c.length k s)
    rw [ih, Int.add_zero]
theorem mstp_len {n m : Nat} : (mstp n m).length = 2 * m := by
  unfold mstp
  induction m with
  | zero => rfl
  | succ m ih =>
    rw [List.range_succ, List.flatMap_append, List.length_append, ih]
    simp
    omega
theorem mstp_succ (n m : Nat) : mstp n (m + 1) = mstp n m ++ [unitC n m (-1), unitC n m 1] := by
  unfold mstp
  rw [List.range_succ, List.flatMap_append]
  simp
theorem cut_to (ds : List PyData) (k : Nat) : cutD ds none (some (k : Int)) = ds.take k := by
  unfold cutD
  rw [HT.sIx_none, HT.sIx_nat, List.drop_zero, Nat.sub_zero]
  rcases Nat.le_total k ds.length with h | h
  · rw [Nat.min_eq_left h]
  · rw [Nat.min_eq_right h, List.take_length, List.take_of_length_le h]
theorem cut_from (ds : List PyData) (k : Nat) : cutD ds (some (k : Int)) none = ds.drop k := by
  unfold cutD
  rw [HT.sIx_none, HT.sIx_nat]
  rcases Nat.le_total k ds.length with h | h
  · rw [Nat.min_eq_left h, List.take_of_length_le (by rw [List.length_drop]; exact Nat.le_refl _)]
  · rw [Nat.min_eq_right h, List.drop_length, List.drop_of_length_le h, List.take_nil]
theorem go_asgN {te : TE} {j : Nat} {D : Ends} {σ : St} {H : Hp} (h : te σ H fun x H1 => D.nx (σ.set j (some x)) H1) : tAsg te (gName j) D σ H := h
theorem go_lst0 {σ : St} {H : Hp} {Q : VK} (h : ∀ p, H p = none → Q (.ref p) (upd H p (.lst []))) : tLst tNil σ H Q := ⟨by show 0 ≤ sizeLine; exact Nat.zero_le _, h⟩
theorem go_var {i : Nat} {v : V} {σ : St} {H : Hp} {Q : VK} (h : σ[i]? = some (some v)) (k : Q v H) : tVar i σ H Q := ⟨v, h, k⟩
theorem go_arg1 {te : TE} {σ : St} {H : Hp} {Q : List V → Hp → Prop} (h : te σ H fun x H1 => Q [x] H1) : tCons te tNil σ H Q := h
/-- len(d), d a set of cells -/
def rLenC : List V → Hp → VK → Prop := fun vs H Q => ∃ (a : Addr) (S : List (List Int)), vs = [.ref a] ∧ H a = some (.dT (cdE S)) ∧ Q (.int (S.length : Int)) H
theorem call_lenC {X : Cx} : CallR X (.builtin "len") rLenC := by
  intro pins s σ H xs us Q I r h
  obtain ⟨a, S, rfl, ha, q⟩ := h
  rw [Vals.ref1 r]
  obtain ⟨z, lo, ks, rel, dd⟩ := dt_of I.hok ha
  have l1 : (cdE S).length = ks.length := Paired.length rel
  rw [List.length_map] at l1 z
  have hm : s.heap.DictKeyed (tupleKind (mixKind X.prog X.w)) a (pairsH ks) := ⟨ks, dd, rfl⟩
  refine PyProof.Rows.call_len_slot (n := ((pairsH ks).length : Nat)) dd.typeIs PySem.F.slot_dict_len (fun Q' hq => len_keyed lo hm hq) (by omega) ?_ ?_
  · rw [pairsH_length, ← l1]
    rw [sizeLine_eq] at z
    omega
  · rw [pairsH_length, ← l1]
    exact ⟨.int _, H, I.tok _, ⟨_, rfl⟩, q⟩
theorem eqv_cellsL (A B : List (List Int)) : PyData.eqv (.list (A.map ceD)) (.list (B.map ceD)) = decide (A = B) := by
  rw [PyData.eqv]
  exact eqv_cells A B
/-- a search that leaves the set: P done, T to do, Sn seen -/
structure SpS (H : Hp) (d p ta : Addr) (S : List (List Int)) (c : List Int) (P T Lf Sn : List (List Int)) (H' : Hp) : Prop where
  same : Same H H'
  seen : H' p = some (.dT (cdE Sn))
  np : H p = none
  nt : H ta = none
  tod : ∃ tvs, H' ta = some (.lst tvs) ∧ DtAll H' tvs (T.map ceD)
  di : DI S c P T Lf
  mem : ∀ x, x ∈ Sn ↔ x ∈ P ++ T
  nd : Sn.Nodup
section
variable {H H' H2 : Hp} {d p ta : Addr} {S P T Lf Sn : List (List Int)} {c x y : List Int}
theorem SpS.same' (h : SpS H d p ta S c P T Lf Sn H') (e : Same H' H2) : SpS H d p ta S c P T Lf Sn H2 := by
  obtain ⟨tvs, t1, t2⟩ := h.tod
  exact ⟨h.same.trans e, e _ _ h.seen, h.np, h.nt, ⟨tvs, e _ _ t1, t2.same e⟩, h.di, h.mem, h.nd⟩
theorem SpS.pop (h : SpS H d p ta S c P (T ++ [x]) Lf Sn H') : ∃ ws v, H' ta = some (.lst (ws ++ [v])) ∧ Dt (upd H' ta (.lst ws)) v (ceD x) ∧ SpS H d p ta S c (P ++ [x]) T Lf Sn (upd H' ta (.lst ws)) := by
  obtain ⟨tvs, t1, t2⟩ := h.tod
  obtain ⟨ws, v, rfl, w1, w2⟩ := cells_snoc t2
  have k1 : Tk H' (upd H' ta (.lst ws)) := tk_l t1
  refine ⟨ws, v, t1, cell_tk k1 w2, same_mut h.same h.nt, ?_, h.np, h.nt, ⟨ws, upd_same, cells_tk k1 w1⟩, h.di.pop, fun z => by rw [h.mem z, mem_pop], h.nd⟩
  rw [upd_ne (Ne.symm (ne_ld t1 h.seen))]
  exact h.seen
theorem SpS.add {v : V} (h : SpS H d p ta S c P T Lf Sn H') (hv : Dt H' v (ceD y)) (hy : y ∈ Lf) (hx : x ∈ P) (hn : y ∈ nbr x) : ∃ tvs, H' ta = some (.lst tvs) ∧ tvs.length = T.length ∧ ta ≠ p ∧
    SpS H d p ta S c P (T ++ [y]) (Lf.filter fun d => decide (d ≠ y)) (addC Sn y) (upd (upd H' p (.dT (cdE (addC Sn y)))) ta (.lst (tvs ++ [v]))) ∧ Tk H' (upd (upd H' p (.dT (cdE (addC Sn y)))) ta (.lst (tvs ++ [v]))) := by
  obtain ⟨tvs, t1, t2⟩ := h.tod
  have ntp : ta ≠ p := ne_ld t1 h.seen
  have k1 : Tk H' (upd H' p (.dT (cdE (addC Sn y)))) := tk_d h.seen
  have t1' : (upd H' p (.dT (cdE (addC Sn y)))) ta = some (.lst tvs) := by rw [upd_ne ntp]; exact t1
  have k2 := k1.trans (tk_l (o := .lst (tvs ++ [v])) t1')
  refine ⟨tvs, t1, by rw [t2.length, List.length_map], ntp, ⟨same_mut (same_mut h.same h.np) h.nt, ?_, h.np, h.nt, ⟨_, upd_same, ?_⟩, h.di.add hy hx hn, fun z => ?_, addC_nodup h.nd⟩, k2⟩
  · rw [upd_ne (Ne.symm ntp), upd_same]
  · rw [List.map_append]
    exact (cells_tk k2 t2).append (.cons (cell_tk k2 hv) .nil)
  · rw [mem_addC, h.mem z, ← List.append_assoc, List.mem_append (t := [y]), List.mem_singleton]
end
/-- the keys of a locked dict -/
theorem tells_keys {σ : St} {H : Hp} {te : TE} {d : Addr} {o : Obj} {kvs : List (List Key × V)} (ha : ∀ Q : VK, Q (.ref d) H → te σ H Q) (hd : H d = some (.frz o (.dT kvs))) :
    Tells1 (iKeys te) σ H kvs.length (fun i v H' => ∃ (k : List Key) (u : V) (q : Addr), kvs[i]? = some (k, u) ∧ v = .ref q ∧ H' q = some (.tup (k.map kV))) fun H' => H' d = some (.frz o (.dT kvs)) := by
  intro R r
  refine ha _ ⟨d, o, rfl, Or.inr ⟨kvs, hd, r _ _ (Same.refl _) hd ?_ ?_ ?_⟩⟩
  · exact fun i H' h lt => ⟨h, lt⟩
  · rintro i H' v H'' h lt ⟨rfl, k, u, q, h1, h2, h3⟩
    exact ⟨Same.refl _, k, u, q, h1, h2, h3⟩
  · exact fun H' h => ⟨h, Nat.le_refl _⟩
theorem comp_of_mem {S Pn : List (List Int)} {c : List Int} (hS : S.Nodup) (hP : Pn.Nodup) (h : ∀ x, x ∈ Pn ↔ x ∈ comp S c) : srt Pn = comp S c := by
  have nd : (comp S c).Nodup := (srt_perm _).nodup_iff.mpr (hS.sublist List.filter_sublist)
  rw [srt_congr ((List.perm_ext_iff_of_nodup hP nd).mpr h)]
  exact (srt_eq (List.Perm.refl _) (srt_srt _)).symm
theorem go_par3 {i j l : Nat} {ta tb tc : TE} {D : Ends} {σ : St} {H : Hp} (h : ta σ H fun x H1 => tb σ H1 fun y H2 => tc σ H2 fun z H3 => ∃ u v w, [x, y, z] = [u, v, w] ∧ D.nx (((σ.set i (some u)).set j (some v)).set l (some w)) H3) :
    tPar3 i j l (tCons ta (tCons tb (tCons tc tNil))) D σ H := h
end Cl

/-! LayU: comprehensions whose elements draw; mt_pop of draws. -/
namespace Cl
open PySem PySem.Spec
open PyProof.Rows hiding St
open L2

/-- a list that stands there tells its items -/
theorem tells_at {K : PySem.W.Frag} {σ : St} {H : Hp} {te : TE} {a : Addr} {xs : List V} (ha : ∀ Q : VK, (∀ H1, Same H H1 → Q (.ref a) H1) → te σ H Q) (hx : H a = some (.lst xs)) :
    Tells1 (iList K te) σ H xs.length (fun i v _ => xs[i]? = some v) fun H' => H' a = some (.lst xs) := by
  intro R r
  refine ha _ fun H1 e1 => ⟨a, rfl, ⟨xs, SqL.of (e1 _ _ hx)⟩, r _ _ e1 (e1 _ _ hx) ?_ ?_ ?_⟩
  · exact fun i H' h lt => ⟨xs, xs[i], SqL.of h, List.getElem?_eq_getElem lt⟩
  · rintro i H' v H'' h lt ⟨rfl, y⟩
    exact ⟨Same.refl _, y xs (SqL.of h)⟩
  · exact fun H' h => ⟨xs, SqL.of h, Nat.le_refl _⟩
theorem kd_at {a p c : Addr} {N : Nat} {xs : List V} : ∀ H' H'' : Hp, H' a = some (.lst xs) → Pen H' p c N → But p H' H'' → H'' a = some (.lst xs) := fun _ _ h q e => q.kd e _ _ rfl h
/-- [e for x in .. ], e draws and tells an int of R -/
theorem lc_pen {wi : TI} {j : Nat} {te : TE} {vs : List Nat} {σ : St} {H : Hp} {Q : VK} {p c N n : Nat} {It : Nat → V → Hp → Prop} {S : Hp → Prop} (R : Int → Prop) (hn : n ≤ 100000)
    (hw : Tells1 wi σ H n It S) (hS : ∀ H' H'', S H' → Pen H' p c N → But p H' H'' → S H'') (hp : Pen H p c N) (hv : ∀ x, wipe ((wipe σ vs).set j (some x)) vs = wipe σ vs)
    (step : ∀ i x H', i < n → But p H H' → Pen H' p c (N + i) → It i x H' → ∀ Q' : VK, (∀ z H'', R z → But p H' H'' → Pen H'' p c (N + i + 1) → Q' (.int z) H'') → te ((wipe σ vs).set j (some x)) H' Q')
    (k : ∀ (D : Addr) (H' : Hp) (zs : List Int), H D = none → But p H H' → Pen H' p c (N + n) → H' D = some (.lst (zs.map V.int)) → zs.length = n → (∀ z ∈ zs, R z) → Q (.ref D) H') : tLc wi (gName j) tYes te vs σ H Q := by
  refine hw _ fun J H1 e1 s1 go yld stop D hD => ?_
  have hD0 := same_free e1 hD
  have off := hp.off hD0
  refine ⟨fun i m H' => m = n - i ∧ i ≤ n ∧ But p H1 H' ∧ Pen H' p c (N + i) ∧ ∃ zs : List Int, H' D = some (.lst (zs.map V.int)) ∧ zs.length = i ∧ ∀ z ∈ zs, R z,
    ⟨n, rfl, Nat.zero_le _, But.of (sameNew hD), (hp.same e1).same (sameNew hD), [], upd_same, rfl, fun z hz => by cases hz⟩, ?_⟩
  rintro i m H' ⟨rfl, hi, b1, p2, zs, z1, z2, z3⟩
  have s2 := hS _ _ s1 (hp.same e1) b1
  have b2 : But p H H' := (But.of e1).trans b1
  rcases Nat.lt_or_ge i n with lt | ge
  · refine Or.inr ⟨go i H' s2 lt, fun H'' => But p H1 H'' ∧ Pen H'' p c (N + (i + 1)) ∧ ∃ zs : List Int, H'' D = some (.lst (zs.map V.int)) ∧ zs.length = i + 1 ∧ ∀ z ∈ zs, R z, fun H'' p' => ⟨n - (i + 1), by omega, rfl, lt, p'⟩, fun x H'' y => ?_⟩
    obtain ⟨e3, it⟩ := yld i H' x H'' s2 lt y
    refine ⟨hv x, ?_⟩
    show te _ H'' _
    refine step i x H'' lt (b2.same e3) (p2.same e3) it _ fun z H3 rz b4 p4 => ?_
    have kd : Kd H' H3 := (kdOf e3).trans ((p2.same e3).kd b4)
    have hD3 := kd _ _ rfl z1
    have off3 : Off D p c := off
    refine ⟨_, hD3, by rw [List.length_map, z2, sizeLine_eq]; omega, ?_, (p4.le (by omega)).upd off3, zs ++ [z], by rw [upd_same, List.map_append]; rfl, by rw [List.length_append, z2]; rfl, fun w hw => ?_⟩
    · exact fun b o e ne => by
        have nb : b ≠ D := ne_of_none e hD
        rw [upd_ne nb]
        exact ((b1.same e3).trans b4) b o e ne
    · rcases List.mem_append.mp hw with hw | hw
      · exact z3 w hw
      · rw [List.mem_singleton.mp hw]
        exact rz
  · obtain rfl : i = n := by omega
    exact Or.inl ⟨stop H' s2, k D H' zs hD0 b2 p2 z1 z2 z3⟩
end Cl

/-! LayV: what repr tells is text (no surrogate, no number beyond). -/
namespace Cl
open PySem PySem.Spec
open PyProof.Rows hiding St
open L2
theorem ok_app {a b : Str} (h : PyData.strOk a = true) (g : PyData.strOk b = true) : PyData.strOk (a ++ b) = true := by
  show (a.cps ++ b.cps).all (· < 0x110000) = true
  have h : a.cps.all (· < 0x110000) = true := h
  have g : b.cps.all (· < 0x110000) = true := g
  rw [Array.all_append, h, g]
  rfl
theorem ok_of (s : String) : PyData.strOk (Str.ofString s) = true := by
  show (Str.ofString s).cps.all (· < 0x110000) = true
  rw [Str.ofString_eq_toList]
  rw [Array.all_eq_true']
  intro x hx
  have hx : x ∈ s.toList.map Char.toNat := by simpa using hx
  obtain ⟨c, _, rfl⟩ := List.mem_map.mp hx
  have := c.valid
  refine decide_eq_true ?_
  have h := UInt32.isValidChar
  rcases c.valid with h | ⟨h1, h2⟩
  · show c.val.toNat < _
    omega
  · show c.val.toNat < _
    omega
theorem ok_join : ∀ ts : List Str, (∀ t ∈ ts, PyData.strOk t = true) → PyData.strOk (Str.join ", " ts) = true
  | [], _ => by decide +kernel
  | [x], h => h x List.mem_cons_self
  | x :: y :: r, h => ok_app (ok_app (h x List.mem_cons_self) (ok_of ", ")) (ok_join (y :: r) fun t ht => h t (List.mem_cons_of_mem _ ht))
theorem ok_from : ∀ (ts : List Str) (k : Nat) (acc : Str), PyData.strOk acc = true → (∀ t ∈ ts, PyData.strOk t = true) → PyData.strOk (textFrom k acc ts) = true
  | [], k, acc, h, _ => h
  | t :: r, k, acc, h, g => by
    unfold textFrom
    refine ok_from r _ _ ?_ fun x hx => g x (List.mem_cons_of_mem _ hx)
    exact ok_app (ok_app h (ok_of _)) (g t List.mem_cons_self)
/-- strings at the leaves may be told -/
inductive Txt : PyData → Prop
  | non : Txt .none
  | bool (b : Bool) : Txt (.bool b)
  | int (i : Int) : Txt (.int i)
  | str {x : Str} (h : PyData.strOk (reprText x) = true) : Txt (.str x)
  | list {ds : List PyData} (h : ∀ d ∈ ds, Txt d) : Txt (.list ds)
  | tuple {ds : List PyData} (h : ∀ d ∈ ds, Txt d) : Txt (.tuple ds)
  | edc : Txt (.dict [])
theorem shownAll_map : ∀ ds : List PyData, PyData.shownAll ds = ds.map PyData.shown
  | [] => rfl
  | d :: ds => by
    show PyData.shown d :: PyData.shownAll ds = _
    rw [shownAll_map ds]
    rfl
theorem Txt.ok {d : PyData} (h : Txt d) : PyData.strOk d.shown = true := by
  induction h with
  | non => exact ok_of "None"
  | bool b => cases b <;> exact ok_of _
  | int i => exact ok_of _
  | str h => exact h
  | list h ih =>
    rename_i ds
    show PyData.strOk (listText (PyData.shownAll ds)) = true
    rw [shownAll_map]
    refine ok_app (ok_from _ _ _ (ok_of "[") fun t ht => ?_) (ok_of "]")
    obtain ⟨d, hd, rfl⟩ := List.mem_map.mp ht
    exact ih d hd
  | tuple h ih =>
    rename_i ds
    show PyData.strOk (tupleText (PyData.shownAll ds)) = true
    rw [shownAll_map]
    unfold tupleText
    refine ok_app (ok_app (ok_of "(") (ok_join _ fun t ht => ?_)) (ok_of _)
    obtain ⟨d, hd, rfl⟩ := List.mem_map.mp ht
    exact ih d hd
  | edc => decide +kernel
end Cl

namespace K01
open PySem PySem.Spec
open PyProof.Rows hiding St
open L2 Cl
def top (i : Nat) : Stmt := PySem.Challenge.pw_clamberhouse_k01_cells.main.body.getD i (.Pass ⟨0, 0, 0, 0⟩)
def inClass (s : Stmt) (j : Nat) : Stmt := match s with
  | .ClassDef _ _ _ b _ _ _ _ _ _ _ => b.getD j (.Pass ⟨0, 0, 0, 0⟩)
  | _ => .Pass ⟨0, 0, 0, 0⟩
abbrev s_is_whole : Stmt := top 4
theorem sc_is_whole : FnScope ["value"] ["value"] (defScope s_is_whole) := ⟨rfl, rfl, rfl, by decide +kernel, rfl, by decide +kernel, by decide +kernel⟩
abbrev s_is_of : Stmt := top 7
theorem sc_is_of : FnScope ["value", "dimension", "item"] ["value", "dimension"] (defScope s_is_of) := ⟨rfl, rfl, rfl, by decide +kernel, rfl, by decide +kernel, by decide +kernel⟩
abbrev s_is_cell : Stmt := top 8
theorem sc_is_cell : FnScope ["value", "dimension"] ["value", "dimension"] (defScope s_is_cell) := ⟨rfl, rfl, rfl, by decide +kernel, rfl, by decide +kernel, by decide +kernel⟩
abbrev s_is_any : Stmt := top 9
theorem sc_is_any : FnScope ["value"] ["value"] (defScope s_is_any) := ⟨rfl, rfl, rfl, by decide +kernel, rfl, by decide +kernel, by decide +kernel⟩
abbrev s_added : Stmt := top 10
theorem sc_added : FnScope ["one", "two", "a", "b"] ["one", "two"] (defScope s_added) := ⟨rfl, rfl, rfl, by decide +kernel, rfl, by decide +kernel, by decide +kernel⟩
abbrev s_around : Stmt := top 11
theorem sc_around : FnScope ["cell", "step"] ["cell"] (defScope s_around) := ⟨rfl, rfl, rfl, by decide +kernel, rfl, by decide +kernel, by decide +kernel⟩
abbrev s_beside : Stmt := top 12
theorem sc_beside : FnScope ["cell"] ["cell"] (defScope s_beside) := ⟨rfl, rfl, rfl, by decide +kernel, rfl, by decide +kernel, by decide +kernel⟩
/-- the places of the steps' tuples -/
def stepA (K : PySem.W.Frag) (n : Nat) : Addr := match K.lookup (He.ga K "STEPS") with
  | some ⟨_, _, .dict es _, _⟩ => (match es.toList[n - 2]? with
    | some ⟨_, _, .ref a⟩ => a
    | _ => 0)
  | _ => 0
def stepI (K : PySem.W.Frag) (n i : Nat) : Addr := match K.lookup (stepA K n) with
  | some ⟨_, _, .seq its _, _⟩ => (match its.toList[i]? with
    | some (.ref a) => a
    | _ => 0)
  | _ => 0
structure Tx (K : PySem.W.Frag) (mg : Str → Option Value) : Prop where
  n_isinstance : mg "isinstance" = none
  n_int : mg "int" = none
  n_bool : mg "bool" = none
  n_tuple : mg "tuple" = none
  n_len : mg "len" = none
  n_all : mg "all" = none
  n_zip : mg "zip" = none
  n_sorted : mg "sorted" = none
  n_list : mg "list" = none
  n_range : mg "range" = none
  n_repr : mg "repr" = none
  n_dict : mg "dict" = none
  g_STEPS : mg "STEPS" = some (.ref (He.ga K "STEPS"))
  k_STEPS : kIntD K (He.ga K "STEPS") [(2, stepA K 2), (3, stepA K 3), (4, stepA K 4)] = true
  k_A : ∀ n, Dm n → tupAt K (stepA K n) ((List.range (stp n).length).map fun i => V.ref (stepI K n i)) = true
  k_I : ∀ n, Dm n → ∀ i s, (stp n)[i]? = some s → tupAt K (stepI K n i) (s.map V.int) = true
  x_cc : PySem.W.exmOne K (.ref (He.ga K "BadCell")) (.ref (He.ga K "BadCell")) = some true
  x_nc : PySem.W.exmOne K (.ref (He.ga K "BadNumber")) (.ref (He.ga K "BadCell")) = some false
  x_nn : PySem.W.exmOne K (.ref (He.ga K "BadNumber")) (.ref (He.ga K "BadNumber")) = some true
  g_BadNumber : mg "BadNumber" = some (.ref (He.ga K "BadNumber"))
  ec_BadNumber : EC K (He.ga K "BadNumber")
  no_BadNumber_what : PySem.W.findIn K (.ref (He.ga K "BadNumber")) "what" = some none
  no_BadNumber_number : PySem.W.findIn K (.ref (He.ga K "BadNumber")) "number" = some none
  in_BadNumber : ∃ fd, PySem.W.findIn K (.ref (He.ga K "BadNumber")) "__init__" = some (some (.ref (He.ma K (He.ga K "BadNumber") "__init__"))) ∧ PySem.W.typeIn K (.ref (He.ma K (He.ga K "BadNumber") "__init__")) = some (.type "function") ∧
    FnAt K "__init__" "BadNumber.__init__" (inClass (top 2) 0) (He.ma K (He.ga K "BadNumber") "__init__") fd ∧ Binds K fd ["self", "what", "number"] []
  g_BadCell : mg "BadCell" = some (.ref (He.ga K "BadCell"))
  ec_BadCell : EC K (He.ga K "BadCell")
  no_BadCell_cell : PySem.W.findIn K (.ref (He.ga K "BadCell")) "cell" = some none
  in_BadCell : ∃ fd, PySem.W.findIn K (.ref (He.ga K "BadCell")) "__init__" = some (some (.ref (He.ma K (He.ga K "BadCell") "__init__"))) ∧ PySem.W.typeIn K (.ref (He.ma K (He.ga K "BadCell") "__init__")) = some (.type "function") ∧
    FnAt K "__init__" "BadCell.__init__" (inClass (top 3) 0) (He.ma K (He.ga K "BadCell") "__init__") fd ∧ Binds K fd ["self", "cell"] []
section
variable {P : Program} {w : World} {K : PySem.W.Frag} {mg : Str → Option Value} {base : Heap}
theorem sc_BadNumber : FnScope ["self", "what", "number"] ["self", "what", "number"] (defScope (inClass (top 2) 0)) := ⟨rfl, rfl, rfl, by decide +kernel, rfl, by decide +kernel, by decide +kernel⟩
theorem mk_BadNumber (T : Tx K mg) : EMk P w K mg base "BadNumber" 1 ["what", "number"] ["self", "what", "number"] (He.ga K "BadNumber") := by
  obtain ⟨fd, h1, h2, h3, h4⟩ := T.in_BadNumber
  refine ⟨T.g_BadNumber, T.ec_BadNumber, fun f hf => ?_, rfl, _, fd, h1, h2, FnG.of h3 sc_BadNumber (fun h => spI_len h) (fun cd A fr s H vs Q E hr hgd h => ⟨_, (pss_cons (ps_ost (pv 0) (pv 1)) (pss_one (ps_ost (pv 0) (pv 2)))), ini2 h⟩), h4⟩
  simp only [List.mem_cons, List.not_mem_nil, or_false] at hf
  rcases hf with rfl | rfl
  · exact T.no_BadNumber_what
  · exact T.no_BadNumber_number
theorem sc_BadCell : FnScope ["self", "cell"] ["self", "cell"] (defScope (inClass (top 3) 0)) := ⟨rfl, rfl, rfl, by decide +kernel, rfl, by decide +kernel, by decide +kernel⟩
theorem mk_BadCell (T : Tx K mg) : EMk P w K mg base "BadCell" 1 ["cell"] ["self", "cell"] (He.ga K "BadCell") := by
  obtain ⟨fd, h1, h2, h3, h4⟩ := T.in_BadCell
  refine ⟨T.g_BadCell, T.ec_BadCell, fun f hf => ?_, rfl, _, fd, h1, h2, FnG.of h3 sc_BadCell (fun h => spI_len h) (fun cd A fr s H vs Q E hr hgd h => ⟨_, (pss_one (ps_ost (pv 0) (pv 1))), ini1 h⟩), h4⟩
  simp only [List.mem_cons, List.not_mem_nil, or_false] at hf
  rw [hf]; exact T.no_BadCell_cell

def spWhole : Sp := fun vs H Q _ => ∃ (v : V) (d : PyData), vs = [v] ∧ Dt H v d ∧ Q (.bl (whl d)) H
theorem ok_is_whole (T : Tx K mg) (F : Cl.Top K mg "is_whole" s_is_whole ["value"]) : Def P w K mg base "is_whole" 1 ["value"] spWhole := by
  refine Def.of F sc_is_whole (fun h => ?_) fun f cd A fr s H vs Q E hr hgd h => ?_
  · obtain ⟨v, d, rfl, _⟩ := h
    rfl
  obtain ⟨v, d, rfl, hd, k⟩ := h
  refine ⟨_, (pss_one (ps_ret (pe_and (pe_callB call_isD (by rfl) T.n_isinstance bt_isinstance (pa_cons (pv 0) (pa_cons (pe_gty (by rfl) T.n_int bt_int) pa_nil))) (pe_one (pe_not (pe_callB call_isD (by rfl) T.n_isinstance bt_isinstance (pa_cons (pv 0) (pa_cons (pe_gty (by rfl) T.n_bool bt_bool) pa_nil)))))))), ?_⟩
  refine ⟨_, rfl, v, d, "int", rfl, hd, by decide, _, rfl, ite2 (fun q => ?_) (fun q => ?_)⟩
  · refine ⟨_, rfl, v, d, "bool", rfl, hd, by decide, _, rfl, ?_⟩
    have e : (!isTy "bool" d) = whl d := by
      cases d <;> first | rfl | (exact absurd q (by decide)) | cases q
    show Q (.bl (!isTy "bool" d)) H
    rw [e]
    exact k
  · have e : false = whl d := by
      cases d <;> first | rfl | (exact absurd rfl q)
    rw [e]
    exact k
def spIsOf : Sp := fun vs H Q _ => ∃ (v : V) (d : PyData) (n : Int), vs = [v, .int n] ∧ Dt H v d ∧ d.weight ≤ 90000 ∧ ∀ H', Same H H' → Q (.bl (isOf n d)) H'
theorem ok_is_of (T : Tx K mg) (F : Cl.Top K mg "is_of" s_is_of ["value", "dimension"]) (D_is_whole : Def P w K mg base "is_whole" 1 ["value"] spWhole) : Def P w K mg base "is_of" 2 ["value", "dimension"] spIsOf := by
  refine Def.of F sc_is_of (fun h => ?_) fun f cd A fr s H vs Q E hr hgd h => ?_
  · obtain ⟨v, d, n, rfl, _⟩ := h
    rfl
  obtain ⟨v, d, n, rfl, hd, hw, k⟩ := h
  refine ⟨_, (pss_one (ps_ret (pe_and (pe_callB call_isD (by rfl) T.n_isinstance bt_isinstance (pa_cons (pv 0) (pa_cons (pe_gty (by rfl) T.n_tuple bt_tuple) pa_nil))) (pe_and (pe_cmpR op_eq (pe_callB (kLen K) (by rfl) T.n_len bt_len (pa_cons (pv 0) pa_nil)) (pv 1) (nomark _)) (pe_one (pe_callB (kAll K rfl) (by rfl) T.n_all bt_all (pa_cons (pe_lc (own := [("item", 2)]) (g := (gName 2)) (tt := tYes) (by rfl) sc_is_of.nd (kPiT K (pv 0)) (blkOk_by (own := [("item", 2)]) (N := ["value", "dimension", "item"]) (sc := defScope s_is_of) (by decide +kernel)) (fun _ _ _ _ _ => (pg_name (i := 2) sc_is_of.nd rfl (Or.inl rfl))) (fun _ _ _ _ _ => pts_nil) (fun _ _ _ _ _ => (pe_d D_is_whole (hr.mono (by decide)) hgd (by rfl) passNo (pa_cons (pv 2) pa_nil)))) pa_nil))))))), ?_⟩
  refine ⟨_, rfl, v, d, "tuple", rfl, hd, by decide, _, rfl, ite2 (fun q => ?_) (fun q => ?_)⟩
  · cases hd with
    | @tup a xs ds e ha =>
      have len := ha.length
      refine ⟨_, rfl, a, xs, rfl, Or.inr (SqT.of e), _, rfl, rfl, _, rfl, ite2 (fun q2 => ?_) (fun q2 => ?_)⟩
      · refine go_cb1 (lc_any (b := fun _ => true) (f := fun i => .bool (whl (ds.getD i .none))) (n := xs.length) ?_ (tells_tup fun Q' q' => ⟨_, rfl, q' H (Same.refl _) (SqT.of e)⟩) stay_tup ?_ ?_)
        · have h1 := weight_all (ds := ds)
          have h2 : PyData.weightAll ds ≤ 90000 := hw
          omega
        · intro i x H' lt e1 hx
          refine goTo_name ⟨rfl, Same.refl _, et_yes, fun _ => ⟨?_, rfl⟩⟩
          intro H1 e2 Q' q'
          obtain ⟨d', hd', hx'⟩ := (ha.same (e1.trans e2)).at hx
          refine ⟨_, rfl, x, d', rfl, hx', q' _ _ (Same.refl _) ?_⟩
          rw [List.getD_eq_getElem?_getD, hd']
          exact .bl _
        · intro D H' ys hD e2 hD2 hys
          rw [told_all, len, range_getD ds .none fun d => .bool (whl d), show (fun d => PyData.bool (whl d)) = PyData.bool ∘ whl from rfl, ← List.map_map] at hys
          refine ⟨D, ds.map whl, rfl, SqL.of (by rw [hys.bools] at hD2; exact hD2), ?_⟩
          have : isOf n (.tuple ds) = (ds.map whl).all id := by
            show (decide ((ds.length : Int) = n) && ds.all whl) = _
            rw [← len, show decide ((xs.length : Int) = n) = true from by simpa using q2, Bool.true_and, List.all_map]
            rfl
          rw [← this]
          exact k H' e2
      · have : isOf n (.tuple ds) = false := by
          show (decide ((ds.length : Int) = n) && ds.all whl) = _
          rw [← len, show decide ((xs.length : Int) = n) = false from by simpa using q2, Bool.false_and]
        rw [← this]
        exact k H (Same.refl _)
    | _ => cases q
  · have : isOf n d = false := by
      cases d with
      | tuple ds => exact absurd rfl q
      | _ => rfl
    rw [← this]
    exact k H (Same.refl _)

/-- a whole number that is a dimension -/
def dimD : PyData → Bool
  | .int i => i == 2 || (i == 3 || i == 4)
  | _ => false
def spIsCell (K : PySem.W.Frag) : Sp := fun vs H Q E => ∃ (v u : V) (d e : PyData), vs = [v, u] ∧ Dt H v d ∧ d.weight ≤ 90000 ∧ Dt H u e ∧
  (∀ n H', e = .int n → dimD e = true → Same H H' → Q (.bl (isOf n d)) H') ∧
  (dimD e = false → ∀ dd H', H dd = none → Same H H' → H' dd = some (.xd [("number", u), ("what", .str "dimension")]) → E (.ref (He.ga K "BadNumber")) (some dd) H')
theorem ok_is_cell (T : Tx K mg) (F : Cl.Top K mg "is_cell" s_is_cell ["value", "dimension"]) (D_is_whole : Def P w K mg base "is_whole" 1 ["value"] spWhole)
    (D_is_of : Def P w K mg base "is_of" 2 ["value", "dimension"] spIsOf) : Def P w K mg base "is_cell" 3 ["value", "dimension"] (spIsCell K) := by
  have E_BadNumber : EMk P w K mg base "BadNumber" 1 _ _ _ := mk_BadNumber T
  refine Def.of F sc_is_cell (fun h => ?_) fun f cd A fr s H vs Q E hr hgd h => ?_
  · obtain ⟨v, u, d, e, rfl, _⟩ := h
    rfl
  obtain ⟨v, u, d, e, rfl, hd, hw, he, k1, k2⟩ := h
  refine ⟨_, (pss_cons (ps_if (PW.pt (pw_or (pt_not (pt_val (pe_d D_is_whole (hr.mono (by decide)) hgd (by rfl) passNo (pa_cons (pv 1) pa_nil)))) (pw_or1 (pt_cmpR (kNotIn K) (pv 1) (pe_tup (pa_cons pe_int (pa_cons pe_int (pa_cons pe_int pa_nil)))) (by rfl)))))
      (pss_one (ps_raise rfl (takes_of rfl rfl rfl rfl) (pmk_g E_BadNumber (hr.mono (by decide)) hgd (by rfl) (pa_cons pe_str (pa_cons (pv 1) pa_nil)))))
      pss_nil)
      (pss_one (ps_ret (pe_d D_is_of (hr.mono (by decide)) hgd (by rfl) passNo (pa_cons (pv 0) (pa_cons (pv 1) pa_nil)))))), ?_⟩
  have raise : ∀ H1, Same H H1 → dimD e = false → tRsE (He.ga K "BadNumber") ["what", "number"] (tCons (tC (V.str "dimension")) (tCons (tVar 1) tNil)) (L2.start ["value", "dimension"] [v, u]) H1 (fun cls d H' => E cls d H') := by
    intro H1 e1 hf
    exact ⟨_, rfl, rfl, (by show 2 ≤ 1000; decide), fun dd H2 hn e2 hx => k2 hf dd H2 (same_free e1 hn) (e1.trans e2) hx⟩
  refine ⟨_, rfl, u, e, rfl, he, _, rfl, ite2 (fun q => ?_) (fun q => ?_)⟩
  · refine iteT (raise H (Same.refl _) ?_)
    cases e with
    | int i => cases q
    | _ => rfl
  · cases e with
    | int i =>
      cases he
      refine ⟨_, rfl, (by show 3 ≤ sizeLine; decide), fun p hp => ⟨p, _, rfl, Or.inr (SqT.of upd_same), rfl, rfl, _, rfl, ?_⟩⟩
      have e0 : inV (V.int i) [V.int 2, V.int 3, V.int 4] = dimD (.int i) := by
        have e (a : Int) : eqV (V.int a) (V.int i) = (i == a) := by
          show (a == i) = (i == a)
          exact Bool.beq_comm
        simp [inV, dimD, e]
      have e1 : Same H (upd H p (.tup [V.int 2, V.int 3, V.int 4])) := sameNew hp
      refine ite2 (fun q2 => raise _ e1 ?_) (fun q2 => ?_)
      · rw [← e0]
        simpa using q2
      · refine ⟨_, rfl, _, rfl, v, d, i, rfl, hd.same e1, hw, fun H2 e2 => k1 i H2 rfl ?_ (e1.trans e2)⟩
        rw [← e0]
        simpa using q2
    | _ => exact absurd rfl q
def spIsAny : Sp := fun vs H Q _ => ∃ (v : V) (d : PyData), vs = [v] ∧ Dt H v d ∧ d.weight ≤ 90000 ∧ ∀ H', Same H H' → Q (.bl (isAny d)) H'
theorem ok_is_any (T : Tx K mg) (F : Cl.Top K mg "is_any" s_is_any ["value"]) (D_is_of : Def P w K mg base "is_of" 2 ["value", "dimension"] spIsOf) : Def P w K mg base "is_any" 3 ["value"] spIsAny := by
  refine Def.of F sc_is_any (fun h => ?_) fun f cd A fr s H vs Q E hr hgd h => ?_
  · obtain ⟨v, d, rfl, _⟩ := h
    rfl
  obtain ⟨v, d, rfl, hd, hw, k⟩ := h
  refine ⟨_, (pss_one (ps_ret (pe_or (pe_d D_is_of (hr.mono (by decide)) hgd (by rfl) passNo (pa_cons (pv 0) (pa_cons pe_int pa_nil))) (pe_or (pe_d D_is_of (hr.mono (by decide)) hgd (by rfl) passNo (pa_cons (pv 0) (pa_cons pe_int pa_nil))) (pe_one (pe_d D_is_of (hr.mono (by decide)) hgd (by rfl) passNo (pa_cons (pv 0) (pa_cons pe_int pa_nil)))))))), ?_⟩
  refine ⟨_, rfl, v, d, 2, rfl, hd, hw, fun H1 e1 => ⟨_, rfl, ite2 (fun q => ?_) (fun q => ?_)⟩⟩
  · have : isAny d = true := by unfold isAny; rw [q]; rfl
    rw [← this]
    exact k H1 e1
  · refine ⟨_, rfl, v, d, 3, rfl, hd.same e1, hw, fun H2 e2 => ⟨_, rfl, ite2 (fun q2 => ?_) (fun q2 => ?_)⟩⟩
    · have : isAny d = true := by unfold isAny; rw [q2]; simp
      rw [← this]
      exact k H2 (e1.trans e2)
    · refine ⟨_, rfl, v, d, 4, rfl, (hd.same e1).same e2, hw, fun H3 e3 => ?_⟩
      have : isAny d = isOf 4 d := by
        unfold isAny
        rw [Bool.eq_false_iff.mpr q, Bool.eq_false_iff.mpr q2]
        rfl
      rw [← this]
      exact k H3 ((e1.trans e2).trans e3)
def spAdded (K : PySem.W.Frag) : Sp := fun vs H Q _ => ∃ (a b : Addr) (x y : List Int), vs = [.ref a, .ref b] ∧ SqT K H a (x.map V.int) ∧ SqT K H b (y.map V.int) ∧ x.length = y.length ∧ x.length ≤ 1000 ∧
  ∀ v H', Same H H' → Dt H' v (ceD (addv x y)) → Q v H'
theorem ok_added (T : Tx K mg) (F : Cl.Top K mg "added" s_added ["one", "two"]) : Def P w K mg base "added" 1 ["one", "two"] (spAdded K) := by
  refine Def.of F sc_added (fun h => ?_) fun f cd A fr s H vs Q E hr hgd h => ?_
  · obtain ⟨a, b, x, y, rfl, _⟩ := h
    rfl
  obtain ⟨a, b, x, y, rfl, hx, hy, hl, hz, k⟩ := h
  refine ⟨_, (pss_one (ps_ret (pe_callTy (kTuple K) (by rfl) T.n_tuple bt_tuple (pa_cons (pe_lc (own := [("a", 2), ("b", 3)]) (g := (gTup K 2 (gCons (gName 2) (gCons (gName 3) gNil)))) (tt := tYes) (by rfl) sc_added.nd (kZip K (by rfl) T.n_zip (pa_cons (pv 0) (pa_cons (pv 1) pa_nil))) (blkOk_by (own := [("a", 2), ("b", 3)]) (N := ["one", "two", "a", "b"]) (sc := defScope s_added) (by decide +kernel)) (fun _ _ _ _ _ => (kTg K rfl (pgs_cons (pg_name (i := 2) sc_added.nd rfl (Or.inl rfl)) (pgs_cons (pg_name (i := 3) sc_added.nd rfl (Or.inl rfl)) pgs_nil)))) (fun _ _ _ _ _ => pts_nil) (fun _ _ _ _ _ => (pe_op op_add (pv 2) (pv 3)))) pa_nil)))), ?_⟩
  refine go_cb1 (lc_any (b := fun _ => true) (f := fun i => .int (x.getD i 0 + y.getD i 0)) (n := (x.map V.int).length) ?_ (tells_zip (by rw [List.length_map, List.length_map, hl]) (fun Q' q' => ⟨_, rfl, _, rfl, q'⟩) hx hy) stay_zip ?_ ?_)
  · rw [List.length_map]
    omega
  · rintro i v H' lt e1 ⟨Tt, p, q, rfl, hT, hp, hq⟩
    rw [List.getElem?_map] at hp hq
    obtain ⟨xi, hxi, rfl⟩ := Option.map_eq_some_iff.mp hp
    obtain ⟨yi, hyi, rfl⟩ := Option.map_eq_some_iff.mp hq
    refine goTo_pair (SqT.of hT) ⟨rfl, Same.refl _, et_yes, fun _ => ⟨?_, rfl⟩⟩
    intro H1 e2 Q' q'
    refine ⟨_, rfl, _, rfl, _, _, rfl, rfl, q' _ _ (Same.refl _) ?_⟩
    rw [List.getD_eq_getElem?_getD, List.getD_eq_getElem?_getD, hxi, hyi]
    exact .int _
  · intro D H' ys hD e2 hD2 hys
    rw [told_all, List.length_map] at hys
    have e3 : ((List.range x.length).map fun i => PyData.int (x.getD i 0 + y.getD i 0)) = (addv x y).map PyData.int := by
      unfold addv
      apply List.ext_getElem?
      intro i
      rw [List.getElem?_map, List.getElem?_map]
      rcases Nat.lt_or_ge i x.length with h | h
      · rw [List.getElem?_range h, List.getElem?_eq_getElem (by rw [List.length_zipWith]; omega), List.getElem_zipWith]
        simp [List.getD_eq_getElem?_getD, List.getElem?_eq_getElem h, List.getElem?_eq_getElem (show i < y.length by omega)]
      · rw [List.getElem?_eq_none (by rw [List.length_range]; exact h), List.getElem?_eq_none (by rw [List.length_zipWith]; omega)]
        rfl
    rw [e3] at hys
    refine ⟨D, ys, rfl, Or.inl ⟨SqL.of hD2, fun l hl' => ?_⟩⟩
    exact k _ _ (e2.trans (sameNew hl')) (.tup upd_same (hys.same (sameNew hl')))
def spAround : Sp := fun vs H Q _ => ∃ (v : V) (c : List Int), vs = [v] ∧ Dt H v (ceD c) ∧ Dm c.length ∧ ∀ u H', Same H H' → Dt H' u (.tuple ((nbr c).map ceD)) → Q u H'
theorem nodup_steps (K : PySem.W.Frag) : ([(2, stepA K 2), (3, stepA K 3), (4, stepA K 4)].map (·.1) : List Int).Nodup := by
  show ([2, 3, 4] : List Int).Nodup
  decide
theorem at_steps (K : PySem.W.Frag) {n : Nat} (h : Dm n) : atI2 [(2, stepA K 2), (3, stepA K 3), (4, stepA K 4)] (n : Int) = some (stepA K n) := by
  rcases h with rfl | rfl | rfl <;> rfl
theorem ok_around (T : Tx K mg) (F : Cl.Top K mg "around" s_around ["cell"]) (D_added : Def P w K mg base "added" 1 ["one", "two"] (spAdded K)) : Def P w K mg base "around" 2 ["cell"] spAround := by
  refine Def.of F sc_around (fun h => ?_) fun f cd A fr s H vs Q E hr hgd h => ?_
  · obtain ⟨v, c, rfl, _⟩ := h
    rfl
  obtain ⟨v, c, rfl, hd, hn, k⟩ := h
  obtain ⟨t, rfl, ht⟩ := hd.cell
  have hl := stp_len hn
  refine ⟨_, (pss_one (ps_ret (pe_callTy (kTuple K) (by rfl) T.n_tuple bt_tuple (pa_cons (pe_lc (own := [("step", 1)]) (g := (gName 1)) (tt := tYes) (by rfl) sc_around.nd (kPiT K (pe_kget K (pe_gref (by rfl) T.g_STEPS) (pe_callB (kLen K) (by rfl) T.n_len bt_len (pa_cons (pv 0) pa_nil)) (fun _ _ => rfl))) (blkOk_by (own := [("step", 1)]) (N := ["cell", "step"]) (sc := defScope s_around) (by decide +kernel)) (fun _ _ _ _ _ => (pg_name (i := 1) sc_around.nd rfl (Or.inl rfl))) (fun _ _ _ _ _ => pts_nil) (fun _ _ _ _ _ => (pe_d D_added (hr.mono (by decide)) hgd (by rfl) passNo (pa_cons (pv 0) (pa_cons (pv 1) pa_nil))))) pa_nil)))), ?_⟩
  refine go_cb1 (lc_any (b := fun _ => true) (f := fun i => ceD (addv c ((stp c.length).getD i []))) (n := ((List.range (stp c.length).length).map fun i => V.ref (stepI K c.length i)).length) ?_ (tells_tup (a := stepA K c.length) fun Q' q' => ?_) stay_tup ?_ ?_)
  · rw [List.length_map, List.length_range]
    rcases hn with h | h | h <;> rw [h] <;> decide
  · refine ⟨_, rfl, t, _, rfl, Or.inr (SqT.of ht), ⟨_, _, _, stepA K c.length, rfl, rfl, T.k_STEPS, nodup_steps K, ?_, q' _ (Same.refl _) (tupAt_ok (T.k_A _ hn) H)⟩⟩
    rw [List.length_map]
    exact at_steps K hn
  · intro i x H' lt e1 hx
    rw [List.getElem?_map] at hx
    obtain ⟨j, hj, rfl⟩ := Option.map_eq_some_iff.mp hx
    rw [List.length_map, List.length_range] at lt
    rw [List.getElem?_range lt] at hj
    cases hj
    refine goTo_name ⟨rfl, Same.refl _, et_yes, fun _ => ⟨?_, pu_cell _⟩⟩
    intro H1 e2 Q' q'
    have hs : (stp c.length)[i]? = some ((stp c.length).getD i []) := by
      rw [List.getD_eq_getElem?_getD, List.getElem?_eq_getElem lt]
      rfl
    refine ⟨_, rfl, _, rfl, t, stepI K c.length i, c, (stp c.length).getD i [], rfl, SqT.of (e2 _ _ (e1 _ _ ht)), tupAt_ok (T.k_I _ hn i _ hs) H1, ?_, ?_, fun u H2 e3 hu => q' u H2 e3 hu⟩
    · exact (hl _ (List.mem_of_getElem? hs)).symm
    · rcases hn with h | h | h <;> rw [h] <;> decide
  · intro D H' ys hD e2 hD2 hys
    rw [told_all, List.length_map, List.length_range, range_getD (stp c.length) [] fun s => ceD (addv c s), show (fun s => ceD (addv c s)) = ceD ∘ addv c from rfl, ← List.map_map] at hys
    refine ⟨D, ys, rfl, Or.inl ⟨SqL.of hD2, fun l hl' => ?_⟩⟩
    exact k _ _ (e2.trans (sameNew hl')) (.tup upd_same (hys.same (sameNew hl')))
def spBeside (K : PySem.W.Frag) : Sp := fun vs H Q E => ∃ (v : V) (d : PyData), vs = [v] ∧ Dt H v d ∧ d.weight ≤ 90000 ∧
  (∀ c, d = ceD c → Dm c.length → ∀ u H', Same H H' → Dt H' u (.tuple ((nbr c).map ceD)) → Q u H') ∧
  (isAny d = false → ∀ dd H', H dd = none → Same H H' → H' dd = some (.xd [("cell", v)]) → E (.ref (He.ga K "BadCell")) (some dd) H')
theorem ok_beside (T : Tx K mg) (F : Cl.Top K mg "beside" s_beside ["cell"]) (D_is_any : Def P w K mg base "is_any" 3 ["value"] spIsAny) (D_around : Def P w K mg base "around" 2 ["cell"] spAround) :
    Def P w K mg base "beside" 4 ["cell"] (spBeside K) := by
  have E_BadCell : EMk P w K mg base "BadCell" 1 _ _ _ := mk_BadCell T
  refine Def.of F sc_beside (fun h => ?_) fun f cd A fr s H vs Q E hr hgd h => ?_
  · obtain ⟨v, d, rfl, _⟩ := h
    rfl
  obtain ⟨v, d, rfl, hd, hw, k1, k2⟩ := h
  refine ⟨_, (pss_cons (ps_if (pt_not (pt_val (pe_d D_is_any (hr.mono (by decide)) hgd (by rfl) passNo (pa_cons (pv 0) pa_nil))))
      (pss_one (ps_raise rfl (takes_of rfl rfl rfl rfl) (pmk_g E_BadCell (hr.mono (by decide)) hgd (by rfl) (pa_cons (pv 0) pa_nil))))
      pss_nil)
      (pss_one (ps_ret (pe_d D_around (hr.mono (by decide)) hgd (by rfl) passNo (pa_cons (pv 0) pa_nil))))), ?_⟩
  refine ⟨_, rfl, v, d, rfl, hd, hw, fun H1 e1 => ⟨_, rfl, ite2 (fun q => ?_) (fun q => ?_)⟩⟩
  · exact ⟨_, rfl, rfl, (by show 1 ≤ 1000; decide), fun dd H2 hn e2 hx => k2 (by simpa using q) dd H2 (same_free e1 hn) (e1.trans e2) hx⟩
  · obtain ⟨c, rfl, hn⟩ := isAny_iff (show isAny d = true by simpa using q)
    exact ⟨_, rfl, v, c, rfl, hd.same e1, hn, fun u H' e2 hu => k1 c rfl hn u H' (e1.trans e2) hu⟩
end
end K01

namespace K01
open PySem PySem.Spec
open PyProof.Rows hiding St
open L2 Cl
abbrev s_taken_part : Stmt := top 13
theorem sc_taken_part : FnScope ["left", "cell", "found", "todo", "one", "other"] ["left", "cell"] (defScope s_taken_part) := ⟨rfl, rfl, rfl, by decide +kernel, rfl, by decide +kernel, by decide +kernel⟩
abbrev s_parts_in : Stmt := top 14
theorem sc_parts_in : FnScope ["cells", "left", "found", "cell"] ["cells"] (defScope s_parts_in) := ⟨rfl, rfl, rfl, by decide +kernel, rfl, by decide +kernel, by decide +kernel⟩
abbrev s_check_cells : Stmt := top 15
theorem sc_check_cells : FnScope ["cells", "cell"] ["cells"] (defScope s_check_cells) := ⟨rfl, rfl, rfl, by decide +kernel, rfl, by decide +kernel, by decide +kernel⟩
abbrev s_parts_of : Stmt := top 16
theorem sc_parts_of : FnScope ["cells"] ["cells"] (defScope s_parts_of) := ⟨rfl, rfl, rfl, by decide +kernel, rfl, by decide +kernel, by decide +kernel⟩
abbrev s_hangs : Stmt := top 17
theorem sc_hangs : FnScope ["cells"] ["cells"] (defScope s_hangs) := ⟨rfl, rfl, rfl, by decide +kernel, rfl, by decide +kernel, by decide +kernel⟩
section
variable {P : Program} {w : World} {K : PySem.W.Frag} {mg : Str → Option Value} {base : Heap}

def spTaken : Sp := fun vs H Q _ => ∃ (l : Addr) (v : V) (L : List (List Int)) (c : List Int), vs = [.ref l, v] ∧ H l = some (.dT (cdE L)) ∧ L.Nodup ∧ (∀ x ∈ L, Dm x.length) ∧ Dt H v (ceD c) ∧ c ∈ L ∧ L.length ≤ 1000 ∧
  ∀ (u : V) (L' : List (List Int)) (H' : Hp), But l H H' → H' l = some (.dT (cdE L')) → L'.Nodup → (∀ x, x ∈ L' ↔ x ∈ L ∧ x ∉ comp L c) → Dt H' u (partD (comp L c)) → Q u H'
theorem ok_taken_part (T : Tx K mg) (F : Cl.Top K mg "taken_part" s_taken_part ["left", "cell"]) (D_around : Def P w K mg base "around" 2 ["cell"] spAround) :
    Def P w K mg base "taken_part" 3 ["left", "cell"] spTaken := by
  refine Def.of F sc_taken_part (fun h => ?_) fun f cd A fr s H vs Q E hr hgd h => ?_
  · obtain ⟨l, v, L, c, rfl, _⟩ := h
    rfl
  obtain ⟨l, v, L, c, rfl, hl, hL, dm, hv, hc, hz, k⟩ := h
  obtain ⟨t, rfl, ht⟩ := hv.cell
  refine ⟨_, (pss_cons (ps_ddelT (units1 hr) (pv 0) (pv 1))
      (pss_cons (ps_par (i := 2) (j := 3) (by rfl) sc_taken_part.nd rfl rfl (by decide) rfl rfl (pa_cons (pe_lst pa_nil) (pa_cons (pe_lst (pa_cons (pv 1) pa_nil)) pa_nil)) (by rfl))
      (pss_cons (ps_while (passes_of rfl) (pt_truth (pv 3) (by intro _; rfl))
      (pss_cons (ps_set (i := 4) sc_taken_part.nd rfl (Or.inl rfl) (pe_bm0 PySem.F.plainAttrs_list PySem.F.slot_list_pop PySem.F.type_list_pop mt_pop (pv 3)))
      (pss_cons (ps_expr (pe_bm PySem.F.plainAttrs_list PySem.F.slot_list_append PySem.F.type_list_append mt_append (pv 2) (pa_cons (pv 4) pa_nil)))
      (pss_one (ps_for (passes_of rfl) rfl (kPiT K (pe_d D_around (hr.mono (by decide)) hgd (by rfl) passNo (pa_cons (pv 4) pa_nil))) (pg_name (i := 5) sc_taken_part.nd rfl (Or.inl rfl))
      (pss_one (ps_if (pt_cmp (pc_din (hu_of hr) (pv 5) (pv 0)))
      (pss_cons (ps_ddelT (units1 hr) (pv 0) (pv 5))
      (pss_one (ps_expr (pe_bm PySem.F.plainAttrs_list PySem.F.slot_list_append PySem.F.type_list_append mt_append (pv 3) (pa_cons (pv 5) pa_nil)))))
      pss_nil)))))))
      (pss_one (ps_ret (pe_callTy (kTuple K) (by rfl) T.n_tuple bt_tuple (pa_cons (pe_callB cr_srtL (by rfl) T.n_sorted bt_sorted (pa_cons (pv 2) pa_nil)) pa_nil))))))), ?_⟩

  refine ⟨_, rfl, _, rfl, l, t, _, cK c, rfl, rfl, hl, by rw [cK_v]; exact ht, by rw [val_cd, if_pos hc]; rfl, ?_⟩
  rw [drop_cd]
  have bA : But l H (upd H l (.dT (cdE (L.filter fun d => decide (d ≠ c))))) := But.put
  have kA : Tk H (upd H l (.dT (cdE (L.filter fun d => decide (d ≠ c))))) := tk_d hl
  have lA : (upd H l (.dT (cdE (L.filter fun d => decide (d ≠ c))))) l = some (.dT (cdE (L.filter fun d => decide (d ≠ c)))) := upd_same
  generalize upd H l (.dT (cdE (L.filter fun d => decide (d ≠ c)))) = HA at bA kA lA
  refine ⟨(by show 0 ≤ sizeLine; exact Nat.zero_le _), fun fa hfa => ⟨_, rfl, (by show 1 ≤ sizeLine; decide), fun ta hta => ⟨_, _, rfl, ?_⟩⟩⟩
  have nft : fa ≠ ta := fun z => by rw [← z, upd_same] at hta; cases hta
  have hfa0 : H fa = none := by
    cases e : H fa with
    | none => rfl
    | some u =>
      by_cases z : fa = l
      · rw [z, lA] at hfa; cases hfa
      · rw [bA _ _ e z] at hfa; cases hfa
  have hta' : HA ta = none := by rw [upd_ne (Ne.symm nft)] at hta; exact hta
  have hta0 : H ta = none := by
    cases e : H ta with
    | none => rfl
    | some u =>
      by_cases z : ta = l
      · rw [z, lA] at hta'; cases hta'
      · rw [bA _ _ e z] at hta'; cases hta'
  have nfl : fa ≠ l := fun z => by rw [z, lA] at hfa; cases hfa
  have ntl : ta ≠ l := fun z => by rw [z, lA] at hta'; cases hta'
  have h0 : TkS H l fa ta L c [] [c] (L.filter fun d => decide (d ≠ c)) (upd (upd HA fa (.lst [])) ta (.lst [.ref t])) := by
    have kk : Tk H (upd (upd HA fa (.lst [])) ta (.lst [.ref t])) := kA.trans ((tk_same (sameNew hfa)).trans (tk_same (sameNew hta)))
    refine ⟨(bA.new hfa0).new hta0, ?_, hfa0, hta0, nft, ⟨[], ?_, .nil⟩, ⟨_, upd_same, .cons (cell_tk kk hv) .nil⟩, DI.start hL hc⟩
    · rw [upd_ne (Ne.symm ntl), upd_ne (Ne.symm nfl)]
      exact lA
    · rw [upd_ne nft, upd_same]
  refine ⟨fun m σ H' => ∃ (F T Lf : List (List Int)) (vo vt : Option V), σ = [some (.ref l), some (.ref t), some (.ref fa), some (.ref ta), vo, vt] ∧ m = L.length - F.length ∧
    TkS H l fa ta L c F T Lf H' ∧ Clo L F (F ++ T), ⟨_, [], [c], _, none, none, rfl, rfl, h0, fun f hf => by cases hf⟩, ?_⟩
  rintro m σ H1 ⟨F, T, Lf, vo, vt, rfl, rfl, st, cl⟩
  obtain ⟨tvs, t1, t2⟩ := st.tod
  refine ⟨_, rfl, !tvs.isEmpty, ?_, ite2 (fun q => ?_) (fun q => ?_)⟩
  · exact Or.inl ⟨tvs, SqL.of t1, rfl⟩
  · have tn : T ≠ [] := fun z => by
      rw [z] at t2
      cases t2
      cases q
    obtain ⟨T0, x, rfl⟩ := last_snoc tn
    obtain ⟨ws, v, fvs, p1, p2, p3, p4, p5, p6⟩ := st.pop
    have hlen := st.di.len
    rw [List.length_append, List.length_singleton] at hlen
    have dx : Dm x.length := dm x (st.di.inn x (by simp)).1
    refine ⟨fun σ' H' => ∃ (T' Lf' : List (List Int)) (vo vt : Option V), σ' = [some (.ref l), some (.ref t), some (.ref fa), some (.ref ta), vo, vt] ∧
      TkS H l fa ta L c (F ++ [x]) T' Lf' H' ∧ Clo L (F ++ [x]) ((F ++ [x]) ++ T'), ?_, ?_⟩
    · rintro σ' H' ⟨T', Lf', vo', vt', e1, e2, e3⟩
      exact ⟨_, by rw [List.length_append, List.length_singleton]; omega, F ++ [x], T', Lf', vo', vt', e1, rfl, e2, e3⟩
    refine ⟨_, rfl, Or.inl ⟨rfl, _, SqL.of p1⟩, ta, _, v, rfl, rfl, p1, by simp, ?_⟩
    rw [List.dropLast_concat]
    have p3' : (upd H1 ta (.lst ws)) fa = some (.lst fvs) := by rw [upd_ne st.ne]; exact p3
    refine ⟨_, rfl, Or.inl ⟨rfl, _, SqL.of p3'⟩, _, rfl, fa, _, v, rfl, rfl, p3', by rw [p4, sizeLine_eq]; omega, ?_⟩
    have p7 := cell_tk p6 p2
    generalize upd (upd H1 ta (.lst ws)) fa (.lst (fvs ++ [v])) = H2 at p5 p7
    refine ⟨_, rfl, v, x, rfl, p7, dx, fun u H3 e3 hu => ?_⟩
    obtain ⟨nq, ys, rfl, hq, hys⟩ := hu.tup_ref
    have sub : ∀ {y : List Int} {T' : List (List Int)} {z : List Int}, y ∈ (F ++ [x]) ++ T' → y ∈ (F ++ [x]) ++ (T' ++ [z]) := fun h => by
      rw [← List.append_assoc]
      exact List.mem_append_left _ h
    refine ⟨nq, rfl, ⟨ys, SqT.of hq⟩, for_tup (K := K) (a := nq) (xs := ys) (fun i σ' H' => ∃ (T' Lf' : List (List Int)) (vt : Option V), σ' = [some (.ref l), some (.ref t), some (.ref fa), some (.ref ta), some v, vt] ∧
      TkS H l fa ta L c (F ++ [x]) T' Lf' H' ∧ H' nq = some (.tup ys) ∧ DtAll H' ys ((nbr x).map ceD) ∧ Clo L F ((F ++ [x]) ++ T') ∧ ∀ y ∈ (nbr x).take i, y ∈ L → y ∈ (F ++ [x]) ++ T') ?_ ?_ ?_ ?_⟩
    · exact ⟨T0, Lf, vt, rfl, p5.same e3, hq, hys, fun f hf y hy hl => mem_pop.mpr (cl f hf y hy hl), fun y hy => by cases hy⟩
    · rintro i σ' H' _ ⟨T', Lf', vt', rfl, s1, s2, s3, s4, s5⟩
      exact SqT.of s2
    · rintro i y' σ' H' hi ⟨T', Lf', vt', rfl, s1, s2, s3, s4, s5⟩
      obtain ⟨d, hd, hy⟩ := s3.at hi
      rw [List.getElem?_map] at hd
      obtain ⟨y, hyn, rfl⟩ := Option.map_eq_some_iff.mp hd
      obtain ⟨ty, rfl, hty⟩ := hy.cell
      have tk : (nbr x).take (i + 1) = (nbr x).take i ++ [y] := by
        rw [List.take_add_one, hyn]
        rfl
      refine ⟨_, rfl, _, rfl, l, _, rfl, dget_c s1.left hty, _, rfl, ?_⟩
      rw [some_ite]
      refine ite2 (fun m => ?_) (fun m => ?_)
      · have m := of_decide_eq_true m
        obtain ⟨tvs', a1, a2, a3, a4, a5⟩ := s1.add hy m (by simp : x ∈ F ++ [x]) (List.mem_of_getElem? hyn)
        refine ⟨_, rfl, _, rfl, l, ty, _, cK y, rfl, rfl, s1.left, by rw [cK_v]; exact hty, by rw [val_cd, if_pos m]; rfl, ?_⟩
        rw [drop_cd]
        have a1' : (upd H' l (.dT (cdE (Lf'.filter fun d => decide (d ≠ y))))) ta = some (.lst tvs') := by rw [upd_ne a3]; exact a1
        have hlen' := s1.di.len
        refine ⟨_, rfl, Or.inl ⟨rfl, _, SqL.of a1'⟩, _, rfl, ta, _, .ref ty, rfl, rfl, a1', by rw [a2, sizeLine_eq]; omega, ?_⟩
        refine ⟨T' ++ [y], _, _, rfl, a4, ?_, cells_tk a5 s3, fun f hf z hz hl => sub (s4 f hf z hz hl), fun z hz hl => ?_⟩
        · exact a5 _ _ s2
        · rw [tk] at hz
          rcases List.mem_append.mp hz with hz | hz
          · exact sub (s5 z hz hl)
          · rw [List.mem_singleton.mp hz]
            simp
      · have m : y ∉ Lf' := fun z => m (decide_eq_true z)
        refine ⟨T', Lf', _, rfl, s1, s2, s3, s4, fun z hz hl => ?_⟩
        rw [tk] at hz
        rcases List.mem_append.mp hz with hz | hz
        · exact s5 z hz hl
        · rw [List.mem_singleton.mp hz] at hl ⊢
          by_cases h : y ∈ (F ++ [x]) ++ T'
          · exact h
          · exact absurd ((s1.di.lf y).mpr ⟨hl, h⟩) m
    · rintro σ' H' ⟨T', Lf', vt', rfl, s1, s2, s3, s4, s5⟩
      refine ⟨T', Lf', _, _, rfl, s1, fun f hf y hy hl => ?_⟩
      rcases List.mem_append.mp hf with hf | hf
      · exact s4 f hf y hy hl
      · rw [List.mem_singleton.mp hf] at hy
        refine s5 y ?_ hl
        rw [s3.length, List.length_map, List.take_length]
        exact hy
  · have tz : T = [] := by
      cases T with
      | nil => rfl
      | cons z T =>
        cases t2
        exact absurd rfl q
    subst tz
    obtain ⟨e1, e2⟩ := st.di.fin hL cl
    obtain ⟨fvs, f1, f2⟩ := st.fnd
    refine ⟨_, rfl, fa, fvs, F, rfl, f1, f2, fun d hd => (dm d (st.di.inn d (by simpa using hd)).1).ne, fun p ys hp hys => ⟨p, ys, rfl, Or.inl ⟨SqL.of upd_same, fun r hr => ?_⟩⟩⟩
    have sm := (sameNew (o := HO.lst ys) hp).trans (sameNew (o := HO.tup ys) hr)
    refine k _ Lf _ (st.but.same sm) (sm _ _ st.left) st.di.lnd e2 ?_
    rw [← e1]
    exact .tup upd_same (hys.same sm)

def spPartsIn (K : PySem.W.Frag) : Sp := fun vs H Q _ => ∃ (a : Addr) (xs : List V) (S : List (List Int)), vs = [.ref a] ∧ SqA K H a xs ∧ DtAll H xs (S.map ceD) ∧ (∀ x ∈ S, Dm x.length) ∧ S.length ≤ 1000 ∧
  ∀ u H', Same H H' → Dt H' u (.tuple ((partsC (once S)).map partD)) → Q u H'
theorem ok_parts_in (T : Tx K mg) (F : Cl.Top K mg "parts_in" s_parts_in ["cells"]) (D_taken_part : Def P w K mg base "taken_part" 3 ["left", "cell"] spTaken) :
    Def P w K mg base "parts_in" 4 ["cells"] (spPartsIn K) := by
  refine Def.of F sc_parts_in (fun h => ?_) fun f cd A fr s H vs Q E hr hgd h => ?_
  · obtain ⟨a, xs, S, rfl, _⟩ := h
    rfl
  obtain ⟨a, xs, S, rfl, hx, hS, dm, hz, k⟩ := h
  have lx : xs.length = S.length := by rw [hS.length, List.length_map]
  refine ⟨_, (pss_cons (ps_par (i := 1) (j := 2) (by rfl) sc_parts_in.nd rfl rfl (by decide) rfl rfl (pa_cons (pe_dcT (own := [("cell", 3)]) (g := (gName 3)) (tt := tYes) (by rfl) (units1 hr) sc_parts_in.nd (kPiS K (pv 0)) (blkOk_by (own := [("cell", 3)]) (N := ["cells", "left", "found", "cell"]) (sc := defScope s_parts_in) (by decide +kernel)) (fun _ _ _ _ _ => (pg_name (i := 3) sc_parts_in.nd rfl (Or.inl rfl))) (fun _ _ _ _ _ => pts_nil) (fun _ _ _ _ _ => (pv 3)) (fun _ _ _ _ _ => pe_bl)) (pa_cons (pe_lst pa_nil) pa_nil)) (by rfl))
      (pss_cons (ps_for (passes_of rfl) rfl (kPiL K (pe_callB cr_srtL (by rfl) T.n_sorted bt_sorted (pa_cons (pe_callTy (cr_lstD rfl) (by rfl) T.n_list bt_list (pa_cons (pv 1) pa_nil)) pa_nil))) (pg_name (i := 3) sc_parts_in.nd rfl (Or.inl rfl))
      (pss_one (ps_if (pt_cmp (pc_din (hu_of hr) (pv 3) (pv 1)))
      (pss_one (ps_expr (pe_bm PySem.F.plainAttrs_list PySem.F.slot_list_append PySem.F.type_list_append mt_append (pv 2) (pa_cons (pe_d D_taken_part (hr.mono (by decide)) hgd (by rfl) passNo (pa_cons (pv 1) (pa_cons (pv 3) pa_nil))) pa_nil))))
      pss_nil)))
      (pss_one (ps_ret (pe_callTy (kTuple K) (by rfl) T.n_tuple bt_tuple (pa_cons (pv 2) pa_nil)))))), ?_⟩
  refine go_seq (go_par (dc_set (j := 3) (tells_seq (fun Q' q' => ⟨_, rfl, q'⟩) hx) (fun H' H'' h e => ⟨fun z => SqL.same (h.1 z) e, fun z => SqT.same (h.2 z) e⟩) rfl (fun _ => rfl) hS (by omega) fun l H1 hl e1 h1 => ?_))
  refine ⟨(by show 0 ≤ sizeLine; exact Nat.zero_le _), fun fa hfa => ⟨_, _, rfl, ?_⟩⟩
  have hfa0 : H fa = none := same_free e1 hfa
  have nlf : l ≠ fa := fun z => by rw [← z, h1] at hfa; cases hfa
  -- sorted(list(left))
  have h1' : (upd H1 fa (.lst [])) l = some (.dT (cdE (once S))) := by rw [upd_ne nlf]; exact h1
  have dm' : ∀ x ∈ once S, Dm x.length := fun x hx => dm x (mem_once.mp hx)
  have e2 : Same H (upd H1 fa (.lst [])) := e1.trans (sameNew hfa)
  have f2 : (upd H1 fa (.lst [])) fa = some (.lst []) := upd_same
  generalize upd H1 fa (.lst []) = H2 at h1' e2 f2
  refine ⟨_, rfl, l, once S, rfl, h1', fun p1 y1 hp1 hy1 => ⟨p1, y1, once S, rfl, upd_same, hy1.same (sameNew hp1), fun d hd => (dm' d hd).ne, fun p ys hp hys => ?_⟩⟩
  have sm := (sameNew (o := HO.lst y1) hp1).trans (sameNew (o := HO.lst ys) hp)
  have h3 := sm _ _ h1'
  have e3 := e2.trans sm
  have f3 := sm _ _ f2
  have p3 : (upd (upd H2 p1 (.lst y1)) p (.lst ys)) p = some (.lst ys) := upd_same
  have hys := hys.same (sameNew (o := HO.lst ys) hp)
  have nfp : fa ≠ p := fun z => by
    rw [← z, upd_ne (fun z2 => by rw [← z2, f2] at hp1; cases hp1), f2] at hp
    cases hp
  have hp0 : H p = none := by
    have q : H2 p = none := same_free (sameNew (o := HO.lst y1) hp1) hp
    exact same_free e2 q
  generalize upd (upd H2 p1 (.lst y1)) p (.lst ys) = H3 at h3 e3 f3 p3 hys
  have nd0 := once_nodup S
  refine ⟨p, rfl, ⟨ys, SqL.of p3⟩, for_list (K := K) (a := p) (xs := ys) (fun i σ' H' => ∃ (Lf : List (List Int)) (fvs : List V) (vc : Option V), σ' = [some (.ref a), some (.ref l), some (.ref fa), vc] ∧ Same H H' ∧
    H' l = some (.dT (cdE Lf)) ∧ Lf.Nodup ∧ (∀ x, x ∈ Lf ↔ x ∈ once S ∧ ¬ ∃ q ∈ ((srt (once S)).take i).foldl (metC (once S)) [], x ∈ q) ∧ (∀ x ∈ Lf, ∀ y ∈ nbr x, y ∈ once S → y ∈ Lf) ∧
    H' fa = some (.lst fvs) ∧ DtAll H' fvs ((((srt (once S)).take i).foldl (metC (once S)) []).map partD) ∧ H' p = some (.lst ys) ∧ DtAll H' ys ((srt (once S)).map ceD)) ?_ ?_ ?_ ?_⟩
  · exact ⟨once S, [], none, rfl, e3, h3, nd0, fun x => ⟨fun h => ⟨h, fun ⟨q, hq, _⟩ => by cases hq⟩, fun h => h.1⟩, fun x hx y hy h => h, f3, .nil, p3, hys⟩
  · rintro i σ' H' _ ⟨Lf, fvs, vc, rfl, s1, s2, s3, s4, s5, s6, s7, s8, s9⟩
    exact SqL.of s8
  · rintro i y' σ' H' hi ⟨Lf, fvs, vc, rfl, s1, s2, s3, s4, s5, s6, s7, s8, s9⟩
    obtain ⟨d, hd, hy⟩ := s9.at hi
    rw [List.getElem?_map] at hd
    obtain ⟨c, hc, rfl⟩ := Option.map_eq_some_iff.mp hd
    obtain ⟨tc, rfl, htc⟩ := hy.cell
    have cS : c ∈ once S := mem_srt.mp (List.mem_of_getElem? hc)
    have tk : (srt (once S)).take (i + 1) = (srt (once S)).take i ++ [c] := by
      rw [List.take_add_one, hc]
      rfl
    have lacc := mets_len (once S) ((srt (once S)).take i)
    have lo := once_len S
    have lo2 := srt_len (once S)
    rw [List.length_take] at lacc
    rw [tk, mets_snoc]
    generalize ((srt (once S)).take i).foldl (metC (once S)) [] = acc at s4 s7 lacc
    have lf := s7.length
    rw [List.length_map] at lf
    refine ⟨_, rfl, _, rfl, l, _, rfl, dget_c s2 htc, _, rfl, ?_⟩
    rw [some_ite]
    refine ite2 (fun m => ?_) (fun m => ?_)
    · have m := of_decide_eq_true m
      have cr := comp_rest nd0 s3 (fun x hx => ((s4 x).mp hx).1) s5 m
      have nl : Lf.length ≤ 1000 := by
        have := nodup_len s3 fun x hx => ((s4 x).mp hx).1
        omega
      have hl0 : H l = none := hl
      refine ⟨_, rfl, Or.inl ⟨rfl, _, SqL.of s6⟩, _, rfl, _, rfl, l, .ref tc, Lf, c, rfl, s2, s3, fun x hx => dm' x ((s4 x).mp hx).1, hy, m, nl, fun u L' H4 b4 l4 nd4 m4 hu => ?_⟩
      have g6 := b4 _ _ s6 (ne_ld s6 s2)
      have g8 := b4 _ _ s8 (ne_ld s8 s2)
      have kd := b4.kd s2 rfl
      have e4 := But.sameOf s1 b4 hl0
      refine ⟨fa, fvs, u, rfl, rfl, g6, by rw [lf, sizeLine_eq]; omega, ?_⟩
      have no : ¬ ∃ q ∈ acc, c ∈ q := ((s4 c).mp m).2
      rw [metC_new no]
      have kt : Tk H4 (upd H4 fa (.lst (fvs ++ [u]))) := tk_l g6
      rw [cr] at hu m4
      refine ⟨L', fvs ++ [u], _, rfl, same_mut e4 hfa0, ?_, nd4, fun x => ?_, rest_closed (c := c) dm' (fun x hx => ((s4 x).mp hx).1) s5 (by rw [cr]; exact m4), upd_same, ?_, ?_, cells_tk (kd.tk.trans kt) s9⟩
      · rw [upd_ne (Ne.symm (ne_ld g6 l4))]
        exact l4
      · rw [m4 x, s4 x]
        constructor
        · rintro ⟨⟨a1, a2⟩, a3⟩
          refine ⟨a1, fun ⟨q, hq, hx⟩ => ?_⟩
          rcases List.mem_append.mp hq with hq | hq
          · exact a2 ⟨q, hq, hx⟩
          · rw [List.mem_singleton.mp hq] at hx
            exact a3 hx
        · rintro ⟨a1, a2⟩
          exact ⟨⟨a1, fun ⟨q, hq, hx⟩ => a2 ⟨q, List.mem_append_left _ hq, hx⟩⟩, fun hx => a2 ⟨_, List.mem_append_right _ (List.mem_singleton.mpr rfl), hx⟩⟩
      · have q := (parts_dt kd s7).append (.cons hu .nil)
        exact parts_tk kt (by rw [List.map_append]; exact q)
      · rw [upd_ne (Ne.symm nfp)]
        exact g8
    · have m : c ∉ Lf := fun z => m (decide_eq_true z)
      have yes : ∃ q ∈ acc, c ∈ q := by
        refine Classical.byContradiction fun z => m ((s4 c).mpr ⟨cS, z⟩)
      rw [metC_old yes]
      exact ⟨Lf, fvs, _, rfl, s1, s2, s3, s4, s5, s6, s7, s8, s9⟩
  · rintro σ' H' ⟨Lf, fvs, vc, rfl, s1, s2, s3, s4, s5, s6, s7, s8, s9⟩
    have ly : ys.length = (srt (once S)).length := by rw [s9.length, List.length_map]
    rw [ly, List.take_length] at s7
    refine ⟨_, rfl, fa, fvs, rfl, Or.inl ⟨SqL.of s6, fun r hr => ?_⟩⟩
    exact k _ _ (s1.trans (sameNew hr)) (.tup upd_same (s7.same (sameNew hr)))
def spCheck (K : PySem.W.Frag) : Sp := fun vs H Q E => ∃ (a : Addr) (xs : List V) (ds : List PyData) (n i : Nat), vs = [.ref a] ∧ SqA K H a xs ∧ DtAll H xs ds ∧ (∀ d ∈ ds, d.weight ≤ 90000) ∧ ds.length ≤ 1000 ∧
  (∀ j d, j < i → ds[j]? = some d → ∃ c : List Int, d = ceD c ∧ c.length = n ∧ Dm n) ∧
  ((i = ds.length ∧ ∀ H', Same H H' → Q .non H') ∨ ∃ v d, xs[i]? = some v ∧ ds[i]? = some d ∧ (isAny d = false ∨ ∃ c : List Int, d = ceD c ∧ Dm c.length ∧ c.length ≠ n ∧ 0 < i) ∧
    ∀ dd H', H dd = none → Same H H' → H' dd = some (.xd [("cell", v)]) → E (.ref (He.ga K "BadCell")) (some dd) H')
theorem ok_check_cells (T : Tx K mg) (F : Cl.Top K mg "check_cells" s_check_cells ["cells"]) (D_is_any : Def P w K mg base "is_any" 3 ["value"] spIsAny) :
    Def P w K mg base "check_cells" 4 ["cells"] (spCheck K) := by
  have E_BadCell : EMk P w K mg base "BadCell" 1 _ _ _ := mk_BadCell T
  refine Def.of F sc_check_cells (fun h => ?_) fun f cd A fr s H vs Q E hr hgd h => ?_
  · obtain ⟨a, xs, ds, n, i, rfl, _⟩ := h
    rfl
  obtain ⟨a, xs, ds, n, i, rfl, hx, hd, hw, hz, hi, k⟩ := h
  refine ⟨_, (pss_one (ps_for (passes_of rfl) rfl (kPiS K (pv 0)) (pg_name (i := 1) sc_check_cells.nd rfl (Or.inl rfl))
      (pss_one (ps_if (PW.pt (pw_or (pt_not (pt_val (pe_d D_is_any (hr.mono (by decide)) hgd (by rfl) passNo (pa_cons (pv 1) pa_nil)))) (pw_or1 (pt_cmpR op_ne (pe_callB (kLen K) (by rfl) T.n_len bt_len (pa_cons (pv 1) pa_nil)) (pe_callB (kLen K) (by rfl) T.n_len bt_len (pa_cons (pe_ix (kIx K) (pv 0) pe_int (fun _ _ => rfl)) pa_nil)) (nomark _)))))
      (pss_one (ps_raise rfl (takes_of rfl rfl rfl rfl) (pmk_g E_BadCell (hr.mono (by decide)) hgd (by rfl) (pa_cons (pv 1) pa_nil))))
      pss_nil)))), ?_⟩
  refine for_any (fun j σ' H' => ∃ vc, σ' = [some (.ref a), vc] ∧ Same H H' ∧ j ≤ i) (tells_seq (fun Q' q' => ⟨_, rfl, q'⟩) hx) (fun H1 e1 _ => ⟨none, rfl, e1, Nat.zero_le _⟩) ?_ ?_ ?_
  · rintro j σ' H' ⟨vc, rfl, e1, _⟩
    exact ⟨fun z => SqL.same z e1, fun z => SqT.same z e1⟩
  · rintro j v σ' H' H'' lt ⟨vc, rfl, e1, le⟩ e2 hv
    have e3 := e1.trans e2
    obtain ⟨d, hdj, hvd⟩ := (hd.same e3).at hv
    have wd := hw d (List.mem_of_getElem? hdj)
    refine ⟨_, rfl, v, d, rfl, hvd, wd, fun H1 e4 => ⟨_, rfl, ?_⟩⟩
    have e5 := e3.trans e4
    -- the raise
    have raise : ∀ H2, Same H H2 → j = i → (isAny d = false ∨ ∃ c : List Int, d = ceD c ∧ c.length ≠ n ∧ Dm c.length ∧ 0 < i) →
        tRsE (He.ga K "BadCell") ["cell"] (tCons (tVar 1) tNil) [some (.ref a), some v] H2 (fun cls d H' => E cls d H') := by
      intro H2 e6 ji why
      subst ji
      rcases k with ⟨k0, _⟩ | ⟨v', d', k1, k2, k3, k4⟩
      · rw [k0] at hdj
        rw [List.getElem?_eq_none (Nat.le_refl _)] at hdj
        cases hdj
      · rw [hv] at k1
        cases k1
        exact ⟨_, rfl, rfl, (by show 1 ≤ 1000; decide), fun dd H3 hn e7 hx => k4 dd H3 (same_free e6 hn) (e6.trans e7) hx⟩
    have jle : ¬ j < i → j = i := fun z => by omega
    refine ite2 (fun q => ?_) (fun q => ?_)
    · have q : isAny d = false := by simpa using q
      refine iteT (raise H1 e5 (jle fun z => ?_) (.inl q))
      obtain ⟨c, rfl, c1, c2⟩ := hi j d z hdj
      rw [isAny_cell (by rw [c1]; exact c2)] at q
      cases q
    · have q : isAny d = true := by simpa using q
      obtain ⟨c, rfl, dc⟩ := isAny_iff q
      have hvc := hvd.same e4
      obtain ⟨tc, rfl, htc⟩ := hvc.cell
      have h0 : ∃ (v0 : V) (c0 : List Int), xs[0]? = some v0 ∧ Dt H1 v0 (ceD c0) ∧ ((j = 0 ∧ c0 = c) ∨ (0 < j ∧ c0.length = n)) := by
        rcases Nat.eq_zero_or_pos j with z | z
        · subst z
          exact ⟨_, c, hv, hvc, .inl ⟨rfl, rfl⟩⟩
        · have : 0 < xs.length := by omega
          obtain ⟨d0, hd0, hv0⟩ := (hd.same e5).at (List.getElem?_eq_getElem this)
          obtain ⟨c0, rfl, c1, _⟩ := hi 0 d0 (by omega) hd0
          exact ⟨_, c0, List.getElem?_eq_getElem this, hv0, .inr ⟨z, c1⟩⟩
      obtain ⟨v0, c0, hx0, hv0, why⟩ := h0
      obtain ⟨t0, rfl, ht0⟩ := hv0.cell
      have at0 : atI xs 0 = some (V.ref t0) := atI_nat (j := 0) hx0
      refine ⟨_, rfl, tc, _, rfl, Or.inr (SqT.of htc), _, rfl, ?_⟩
      have tail : rLenQ K [V.ref t0] H1 (fun y H2 => rNe (V.int ((c.map V.int).length : Nat)) y H2 (fun x H' => ∃ k, x = .bl k ∧ (if k = true then
          tRsE (He.ga K "BadCell") ["cell"] (tCons (tVar 1) tNil) [some (.ref a), some (.ref tc)] H' (fun cls d H' => E cls d H')
          else tNext { nx := fun σ' H' => ∃ vc, σ' = [some (.ref a), vc] ∧ Same H H' ∧ j + 1 ≤ i, rt := Q, bk := fun x H' => Q V.non H', ct := fun σ' H' => ∃ vc, σ' = [some (.ref a), vc] ∧ Same H H' ∧ j + 1 ≤ i } [some (.ref a), some (.ref tc)] H'))) := by
        refine ⟨t0, _, rfl, Or.inr (SqT.of ht0), rfl, _, rfl, ite2 (fun q2 => ?_) (fun q2 => ?_)⟩
        · have q3 : ¬ c.length = c0.length := by
            intro z
            simp [z] at q2
          rcases why with ⟨_, rfl⟩ | ⟨w1, w2⟩
          · exact absurd rfl q3
          · have ji := jle fun z => by
              obtain ⟨c', e', c1, _⟩ := hi j _ z hdj
              have : c' = c := (ceD_inj e').symm
              rw [this] at c1
              omega
            exact raise H1 e5 ji (.inr ⟨c, rfl, by omega, dc, by omega⟩)
        · have q3 : c.length = c0.length := by
            have : (c.length : Int) = c0.length := by simpa using q2
            omega
          refine ⟨_, rfl, e5, ?_⟩
          refine Nat.lt_of_le_of_ne le fun ji => ?_
          rcases k with ⟨k0, _⟩ | ⟨v', d', k1, k2, k3, _⟩
          · have := hd.length
            omega
          · rw [← ji, hdj] at k2
            cases k2
            rcases k3 with k3 | ⟨c', e', k4, k5, k6⟩
            · rw [k3] at q
              cases q
            · have : c = c' := ceD_inj e'
              rcases why with ⟨w0, _⟩ | ⟨w1, w2⟩
              · omega
              · rw [← this] at k5
                omega
      rcases hx with hx | hx
      · exact Or.inl ⟨a, xs, 0, .ref t0, rfl, rfl, SqL.same hx e5, at0, tail⟩
      · exact Or.inr (Or.inl ⟨a, xs, 0, .ref t0, rfl, rfl, SqT.same hx e5, at0, tail⟩)
  · rintro σ' H' ⟨vc, rfl, e1, le⟩
    rcases k with ⟨_, k0⟩ | ⟨v', d', k1, k2, _⟩
    · exact k0 H' e1
    · have := (List.getElem?_eq_some_iff.mp k1).1
      omega

def spPartsOf (K : PySem.W.Frag) : Sp := fun vs H Q E => ∃ (a : Addr) (xs : List V) (ds : List PyData) (n i : Nat), vs = [.ref a] ∧ SqA K H a xs ∧ DtAll H xs ds ∧ (∀ d ∈ ds, d.weight ≤ 90000) ∧ ds.length ≤ 1000 ∧
  (∀ j d, j < i → ds[j]? = some d → ∃ c : List Int, d = ceD c ∧ c.length = n ∧ Dm n) ∧
  ((i = ds.length ∧ ∀ S, ds = S.map ceD → ∀ u H', Same H H' → Dt H' u (.tuple ((partsC (once S)).map partD)) → Q u H') ∨
    ∃ v d, xs[i]? = some v ∧ ds[i]? = some d ∧ (isAny d = false ∨ ∃ c : List Int, d = ceD c ∧ Dm c.length ∧ c.length ≠ n ∧ 0 < i) ∧
    ∀ dd H', H dd = none → Same H H' → H' dd = some (.xd [("cell", v)]) → E (.ref (He.ga K "BadCell")) (some dd) H')
theorem cells_of {ds : List PyData} {n : Nat} (h : ∀ (j : Nat) d, j < ds.length → ds[j]? = some d → ∃ c : List Int, d = ceD c ∧ c.length = n ∧ Dm n) : ∃ S : List (List Int), ds = S.map ceD ∧ ∀ x ∈ S, Dm x.length := by
  induction ds with
  | nil => exact ⟨[], rfl, fun x hx => by cases hx⟩
  | cons d ds ih =>
    obtain ⟨S, rfl, hS⟩ := ih fun j d hj hd => h (j + 1) d (Nat.succ_lt_succ hj) hd
    obtain ⟨c, rfl, c1, c2⟩ := h 0 d (Nat.succ_pos _) rfl
    refine ⟨c :: S, rfl, fun x hx => ?_⟩
    rcases List.mem_cons.mp hx with rfl | hx
    · rw [c1]; exact c2
    · exact hS x hx
theorem ok_parts_of (T : Tx K mg) (F : Cl.Top K mg "parts_of" s_parts_of ["cells"]) (D_check_cells : Def P w K mg base "check_cells" 4 ["cells"] (spCheck K)) (D_parts_in : Def P w K mg base "parts_in" 4 ["cells"] (spPartsIn K)) :
    Def P w K mg base "parts_of" 5 ["cells"] (spPartsOf K) := by
  refine Def.of F sc_parts_of (fun h => ?_) fun f cd A fr s H vs Q E hr hgd h => ?_
  · obtain ⟨a, xs, ds, n, i, rfl, _⟩ := h
    rfl
  obtain ⟨a, xs, ds, n, i, rfl, hx, hd, hw, hz, hi, k⟩ := h
  refine ⟨_, (pss_cons (ps_expr (pe_d D_check_cells (hr.mono (by decide)) hgd (by rfl) (fun σ => passAt (takes_of rfl rfl rfl rfl) σ) (pa_cons (pv 0) pa_nil)))
      (pss_one (ps_ret (pe_d D_parts_in (hr.mono (by decide)) hgd (by rfl) passNo (pa_cons (pv 0) pa_nil))))), ?_⟩
  rcases k with ⟨rfl, k⟩ | k
  · obtain ⟨S, rfl, dm⟩ := cells_of hi
    refine ⟨_, rfl, a, xs, _, n, _, rfl, hx, hd, hw, hz, hi, Or.inl ⟨rfl, fun H1 e1 => ?_⟩⟩
    exact ⟨_, rfl, a, xs, S, rfl, SqA.same hx e1, hd.same e1, dm, by rw [List.length_map] at hz; exact hz, fun u H' e2 hu => k S rfl u H' (e1.trans e2) hu⟩
  · exact ⟨_, rfl, a, xs, ds, n, i, rfl, hx, hd, hw, hz, hi, Or.inr k⟩
def spHangs (K : PySem.W.Frag) : Sp := fun vs H Q E => ∃ (a : Addr) (xs : List V) (ds : List PyData) (n i : Nat), vs = [.ref a] ∧ SqA K H a xs ∧ DtAll H xs ds ∧ (∀ d ∈ ds, d.weight ≤ 90000) ∧ ds.length ≤ 1000 ∧
  (∀ j d, j < i → ds[j]? = some d → ∃ c : List Int, d = ceD c ∧ c.length = n ∧ Dm n) ∧
  ((i = ds.length ∧ ∀ S, ds = S.map ceD → ∀ H', Same H H' → Q (.bl (decide ((partsC (once S)).length = 1))) H') ∨
    ∃ v d, xs[i]? = some v ∧ ds[i]? = some d ∧ (isAny d = false ∨ ∃ c : List Int, d = ceD c ∧ Dm c.length ∧ c.length ≠ n ∧ 0 < i) ∧
    ∀ dd H', H dd = none → Same H H' → H' dd = some (.xd [("cell", v)]) → E (.ref (He.ga K "BadCell")) (some dd) H')
theorem ok_hangs (T : Tx K mg) (F : Cl.Top K mg "hangs" s_hangs ["cells"]) (D_parts_of : Def P w K mg base "parts_of" 5 ["cells"] (spPartsOf K)) :
    Def P w K mg base "hangs" 6 ["cells"] (spHangs K) := by
  refine Def.of F sc_hangs (fun h => ?_) fun f cd A fr s H vs Q E hr hgd h => ?_
  · obtain ⟨a, xs, ds, n, i, rfl, _⟩ := h
    rfl
  obtain ⟨a, xs, ds, n, i, rfl, hx, hd, hw, hz, hi, k⟩ := h
  refine ⟨_, (pss_one (ps_ret (pe_cmpR op_eq (pe_callB (kLen K) (by rfl) T.n_len bt_len (pa_cons (pe_d D_parts_of (hr.mono (by decide)) hgd (by rfl) (fun σ => passAt (takes_of rfl rfl rfl rfl) σ) (pa_cons (pv 0) pa_nil)) pa_nil)) pe_int (nomark _)))), ?_⟩
  refine ⟨_, rfl, a, xs, ds, n, i, rfl, hx, hd, hw, hz, hi, k.imp (fun k => ⟨k.1, fun S eS u H1 e1 hu => ?_⟩) id⟩
  obtain ⟨q, ys, rfl, hq, hys⟩ := hu.tup_ref
  have lq : ys.length = (partsC (once S)).length := by rw [hys.length, List.length_map]
  refine ⟨q, ys, rfl, Or.inr (SqT.of hq), rfl, ?_⟩
  have e : decide (V.int ((ys.length : Nat) : Int) = V.int 1) = decide ((partsC (once S)).length = 1) := by
    rw [lq]
    refine decide_eq_decide.mpr ⟨fun z => ?_, fun z => by rw [z]; rfl⟩
    have := V.int.inj z
    omega
  rw [e]
  exact k.2 S eS H1 e1
end
end K01

namespace K01
open PySem PySem.Spec
open PyProof.Rows hiding St
open L2 Cl
abbrev s_law_pen : Stmt := top 19
theorem sc_law_pen : FnScope ["script", "fold", "cell"] ["script"] (defScope s_law_pen) := ⟨rfl, rfl, rfl, by decide +kernel, rfl, by decide +kernel, by decide +kernel⟩
abbrev s_law_draw : Stmt := top 20
theorem sc_law_draw : FnScope ["pen", "many", "cell", "digit", "blend"] ["pen", "many"] (defScope s_law_draw) := ⟨rfl, rfl, rfl, by decide +kernel, rfl, by decide +kernel, by decide +kernel⟩
abbrev s_law_pick : Stmt := top 21
theorem sc_law_pick : FnScope ["pen", "some"] ["pen", "some"] (defScope s_law_pick) := ⟨rfl, rfl, rfl, by decide +kernel, rfl, by decide +kernel, by decide +kernel⟩
abbrev s_law_around : Stmt := top 22
theorem sc_law_around : FnScope ["cell", "found", "k", "by"] ["cell"] (defScope s_law_around) := ⟨rfl, rfl, rfl, by decide +kernel, rfl, by decide +kernel, by decide +kernel⟩
section
variable {P : Program} {w : World} {K : PySem.W.Frag} {mg : Str → Option Value} {base : Heap}
theorem ok_law_pen (T : Tx K mg) (F : Top K mg "_law_pen" s_law_pen ["script"]) :
    Def P w K mg base "_law_pen" 1 ["script"] (spPen K) := by
  refine Def.of F sc_law_pen (fun h => ?_) fun f cd A fr s H vs Q E hr hgd h => ?_
  · obtain ⟨a, ns, rfl, _⟩ := h
    rfl
  obtain ⟨a, ns, rfl, hS, hl, k⟩ := h
  refine ⟨_, (pss_cons (ps_set (i := 1) sc_law_pen.nd rfl (Or.inl rfl) pe_int)
      (pss_cons (ps_for (passes_of rfl) rfl (kPiL K (pv 0)) (pg_name (i := 2) sc_law_pen.nd rfl (Or.inl rfl))
      (pss_one (ps_set (i := 1) sc_law_pen.nd rfl (Or.inl rfl) (pe_op op_mod (pe_callTy call_int1 (by rfl) T.n_int bt_int (pa_cons (pe_op op_add (pe_op op_mul (pv 1) pe_int) (pv 2)) pa_nil)) pe_int))))
      (pss_one (ps_ret (pe_disp (pps_cons pe_str (pe_callTy (kList K) (by rfl) T.n_list bt_list (pa_cons (pv 0) pa_nil)) (pps_cons pe_str pe_int (pps_cons pe_str pe_int (pps_cons pe_str pe_int (pps_cons pe_str (pv 1) pps_nil))))) (by rfl) (by rfl) (fun z => by cases z) (by decide)))))), ?_⟩
  refine ⟨_, rfl, a, rfl, ⟨_, hS⟩, for_list (K := K) (a := a) (xs := ns.map V.int) (fun i σ H2 => ∃ (f : Int) (v : Option V),
    σ = [some (.ref a), some (.int f), v] ∧ H2 = H ∧ 0 ≤ f ∧ f < 4294967296) ⟨0, none, rfl, rfl, by decide, by decide⟩ ?_ ?_ ?_⟩
  · rintro i σ H2 _ ⟨f, v, rfl, rfl, _⟩
    exact hS
  · rintro i y σ H2 hi ⟨f, v, rfl, rfl, h0, h1⟩
    obtain ⟨z, rfl⟩ : ∃ z, y = V.int z := by
      rw [List.getElem?_map] at hi
      cases e : ns[i]? with
      | none => rw [e] at hi; cases hi
      | some z => rw [e] at hi; exact ⟨z, (Option.some.inj hi).symm⟩
    refine ⟨_, rfl, _, _, rfl, rfl, Or.inl ⟨by omega, by omega⟩, ?_⟩
    refine ⟨_, rfl, _, _, rfl, rfl, ?_⟩
    refine Or.inl ⟨_, rfl, ?_⟩
    refine ⟨_, _, rfl, rfl, (show (0 : Int) < 1000000007 by decide), ?_⟩
    refine ⟨_, _, rfl, rfl, Int.emod_nonneg _ (by decide), ?_⟩
    have := Int.emod_lt_of_pos (f * 43 + z) (show (0 : Int) < 1000000007 by decide)
    omega
  · rintro σ H2 ⟨f, v, rfl, rfl, h0, h1⟩
    intro p hp
    refine ⟨_, rfl, _, _, rfl, Or.inl ((sameNew hp).seq hS), fun c hc => ?_⟩
    refine ⟨_, rfl, ?_⟩
    have ncp : c ≠ p := fun z => by rw [z, upd_same] at hc; cases hc
    refine ⟨by rw [upd_ne (Ne.symm ncp)]; exact upd_same, penK c 0 0 0 f, rfl, (by show 5 ≤ 15; decide), ?_⟩
    rw [pen_merge]
    have hc' : H2 c = none := by rw [upd_ne ncp] at hc; exact hc
    refine k p c _ (fun b o e => ?_) hp ⟨0, 0, 0, f, ns, upd_same, ?_, by omega, by omega, hl, by omega, by omega, by omega, h0, h1⟩
    · rw [upd_ne (ne_of_none e hp), upd_ne (ne_of_none e hc'), upd_ne (ne_of_none e hp)]
      exact e
    · rw [upd_ne ncp, upd_same]
theorem ok_law_draw (T : Tx K mg) (F : Top K mg "_law_draw" s_law_draw ["pen", "many"]) :
    Def P w K mg base "_law_draw" 1 ["pen", "many"] spDraw := by
  refine Def.of F sc_law_draw (fun h => ?_) fun f cd A fr s H vs Q E hr hgd h => ?_
  · obtain ⟨a, c, ns, m, rfl, _⟩ := h
    rfl
  obtain ⟨p, c, n, m, rfl, ⟨i, dg, ct, fo, ns, h1, h2, i0, i1, nl, d0, c0, c1, f0, f1⟩, hn, m0, m1, k⟩ := h
  have npc : c ≠ p := fun z => by rw [z, h1] at h2; cases h2
  have G : ∀ {H' : Hp} {key : Str} {i dg ct fo : Int} {v : V}, H' p = some (.dK (penK c i dg ct fo)) → valV (penK c i dg ct fo) (Sum.inr key) = some v → DGet H' p (.str key) (some v) := fun {H' key i dg ct fo v} e l => by
    have q := DGet.k (k := Sum.inr key) e
    rw [l] at q
    exact q
  have Pu : ∀ {H' : Hp} {key : Str} {i dg ct fo i' dg' ct' fo' : Int} {v : V}, H' p = some (.dK (penK c i dg ct fo)) → putK (penK c i dg ct fo) (Sum.inr key) v = penK c i' dg' ct' fo' →
      DPut H' p (.str key) v (upd H' p (.dK (penK c i' dg' ct' fo'))) := fun {H' key i dg ct fo i' dg' ct' fo' v} e l => by
    have q := DPut.k (k := Sum.inr key) (v := v) e (show 5 < sizeLine by decide)
    rw [l] at q
    exact q
  -- the end of each way: the pen as it is then
  have fin : ∀ {i' dg' fo' r : Int} {H' : Hp}, But p H H' → H' p = some (.dK (penK c i' dg' (ct + 1) fo')) → 0 ≤ i' → i' ≤ (ns.length : Int) → 0 ≤ dg' → 0 ≤ fo' → fo' < 4294967296 → 0 ≤ r → r < m → Q (.int r) H' :=
    fun {i' dg' fo' r H'} b e a1 a2 a3 a4 a5 a6 a7 => k r H' a6 a7 b ⟨i', dg', ct + 1, fo', ns, e, b c _ h2 npc, a1, a2, nl, a3, by omega, by omega, a4, a5⟩
  refine ⟨_, (pss_cons (ps_dput (hu_of hr) (pv 0) pe_str (pe_op op_add (pe_dget (hu_of hr) (pv 0) pe_str (fun _ _ => rfl)) pe_int) rfl)
      (pss_mid (ps_if (PW.pt (pw_and (pt_cmpR op_eq (pe_dget (hu_of hr) (pv 0) pe_str (fun _ _ => rfl)) pe_int (nomark _)) (pw_and1 (pt_cmpR op_lt (pe_dget (hu_of hr) (pv 0) pe_str (fun _ _ => rfl)) (pe_callB (kLen K) (by rfl) T.n_len bt_len (pa_cons (pe_dget (hu_of hr) (pv 0) pe_str (fun _ _ => rfl)) pa_nil)) (nomark _)))))
      (pss_cons (ps_set (i := 2) sc_law_draw.nd rfl (Or.inl rfl) (pe_ix (kIx K) (pe_dget (hu_of hr) (pv 0) pe_str (fun _ _ => rfl)) (pe_dget (hu_of hr) (pv 0) pe_str (fun _ _ => rfl)) (fun _ _ => rfl)))
      (pss_cons (ps_dput (hu_of hr) (pv 0) pe_str (pe_op op_add (pe_dget (hu_of hr) (pv 0) pe_str (fun _ _ => rfl)) pe_int) rfl)
      (pss_one (ps_if (pt_cmpR op_ge (pv 2) (pe_op op_pow pe_int pe_int) (nomark _))
      (pss_one (ps_dput (hu_of hr) (pv 0) pe_str (pe_op op_sub (pv 2) (pe_op op_pow pe_int pe_int)) rfl))
      (pss_one (ps_dput (hu_of hr) (pv 0) pe_str (pe_op op_mod (pe_callTy call_int1 (by rfl) T.n_int bt_int (pa_cons (pe_op op_add (pe_op op_mul (pe_dget (hu_of hr) (pv 0) pe_str (fun _ _ => rfl)) pe_int) (pv 2)) pa_nil)) pe_int) rfl))))))
      pss_nil)
      (pss_cons (ps_if (pt_cmpR op_gt (pe_dget (hu_of hr) (pv 0) pe_str (fun _ _ => rfl)) pe_int (nomark _))
      (pss_cons (ps_set (i := 3) sc_law_draw.nd rfl (Or.inl rfl) (pe_op op_mod (pe_callTy call_int1 (by rfl) T.n_int bt_int (pa_cons (pe_dget (hu_of hr) (pv 0) pe_str (fun _ _ => rfl)) pa_nil)) (pv 1)))
      (pss_cons (ps_dput (hu_of hr) (pv 0) pe_str (pe_op op_fdiv (pe_dget (hu_of hr) (pv 0) pe_str (fun _ _ => rfl)) (pv 1)) rfl)
      (pss_one (ps_ret (pv 3)))))
      pss_nil)
      (pss_cons (ps_set (i := 4) sc_law_draw.nd rfl (Or.inl rfl) (pe_op op_add (pe_op op_add (pe_dget (hu_of hr) (pv 0) pe_str (fun _ _ => rfl)) (pe_op op_mul (pe_dget (hu_of hr) (pv 0) pe_str (fun _ _ => rfl)) pe_int)) pe_int))
      (pss_one (ps_ret (pe_op op_mod (pe_op op_fdiv (pe_callTy call_int1 (by rfl) T.n_int bt_int (pa_cons (pe_op op_mod (pe_op op_pow (pv 4) pe_int) pe_int) pa_nil)) pe_int) (pv 1)))))))), ?_⟩
  refine ⟨_, rfl, p, _, rfl, G h1 pen_count, _, _, rfl, rfl, ?_⟩
  refine ⟨_, rfl, p, _, rfl, Pu h1 pen_put_count, ?_⟩
  have hA : (upd H p (.dK (penK c i dg (ct + 1) fo))) p = some (.dK (penK c i dg (ct + 1) fo)) := upd_same
  have bA : But p H (upd H p (.dK (penK c i dg (ct + 1) fo))) := But.put
  generalize upd H p (.dK (penK c i dg (ct + 1) fo)) = HA at hA bA
  -- up to the word behind the if
  refine ⟨fun σ' H' => ∃ (v : Option V) (i' dg' fo' : Int), σ' = [some (.ref p), some (.int m), v, none, none] ∧ But p H H' ∧ H' p = some (.dK (penK c i' dg' (ct + 1) fo')) ∧
    0 ≤ i' ∧ i' ≤ (ns.length : Int) ∧ 0 ≤ dg' ∧ 0 ≤ fo' ∧ fo' < 4294967296, ?_, ?_⟩
  · refine ⟨_, rfl, p, _, rfl, G hA pen_digits, rfl, _, rfl, ?_⟩
    refine ite2 (fun q1 => ?_) (fun q1 => ?_)
    · refine ⟨_, rfl, p, _, rfl, G hA pen_at, _, rfl, p, _, rfl, G hA pen_cells, c, _, rfl, Or.inl (SqL.of (bA c _ h2 npc)), _, _, rfl, rfl, _, rfl, ?_⟩
      refine ite2 (fun q2 => ?_) (fun q2 => ?_)
      · rw [List.length_map] at q2
        have q3 : i < (ns.length : Int) := of_decide_eq_true q2
        obtain ⟨j, rfl⟩ : ∃ j : Nat, i = (j : Int) := ⟨i.toNat, by omega⟩
        have hj : j < ns.length := by omega
        have hz : (ns.map V.int)[j]? = some (V.int ns[j]) := by rw [List.getElem?_map, List.getElem?_eq_getElem hj] <;> rfl
        refine ⟨_, rfl, p, _, rfl, G hA pen_cells, _, rfl, p, _, rfl, G hA pen_at, Or.inl ⟨c, _, _, _, rfl, rfl, SqL.of (bA c _ h2 npc), atI_nat hz, ?_⟩⟩
        refine ⟨_, rfl, p, _, rfl, G hA pen_at, _, _, rfl, rfl, ?_⟩
        refine ⟨_, rfl, p, _, rfl, Pu hA pen_put_at, ?_⟩
        have hB : (upd HA p (.dK (penK c ((j : Int) + 1) dg (ct + 1) fo))) p = some (.dK (penK c ((j : Int) + 1) dg (ct + 1) fo)) := upd_same
        have bB : But p H (upd HA p (.dK (penK c ((j : Int) + 1) dg (ct + 1) fo))) := bA.trans But.put
        generalize upd HA p (.dK (penK c ((j : Int) + 1) dg (ct + 1) fo)) = HB at hB bB
        refine ⟨_, rfl, _, _, rfl, rfl, ⟨by decide, by decide, by decide⟩, _, _, rfl, rfl, _, rfl, ?_⟩
        refine ite2 (fun q4 => ?_) (fun q4 => ?_)
        · refine ⟨_, rfl, _, _, rfl, rfl, ⟨by decide, by decide, by decide⟩, _, _, rfl, rfl, ?_⟩
          refine ⟨_, rfl, p, _, rfl, Pu hB pen_put_digits, ?_⟩
          exact ⟨_, _, _, _, rfl, bB.trans But.put, upd_same, by omega, by omega, by have := of_decide_eq_true q4; omega, f0, f1⟩
        · refine ⟨_, rfl, p, _, rfl, G hB pen_fold, _, _, rfl, rfl, Or.inl ⟨by omega, by omega⟩, _, rfl, _, _, rfl, rfl, Or.inl ⟨_, rfl, _, _, rfl, rfl, (show (0 : Int) < 2147483587 by decide), ?_⟩⟩
          refine ⟨_, rfl, p, _, rfl, Pu hB pen_put_fold, ?_⟩
          have e1 := Int.emod_nonneg (fo * 71993 + ns[j]) (show (2147483587 : Int) ≠ 0 by decide)
          have e2 := Int.emod_lt_of_pos (fo * 71993 + ns[j]) (show (0 : Int) < 2147483587 by decide)
          exact ⟨_, _, _, _, rfl, bB.trans But.put, upd_same, by omega, by omega, d0, e1, by omega⟩
      · exact ⟨none, i, dg, fo, rfl, bA, hA, i0, i1, d0, f0, f1⟩
    · exact ⟨none, i, dg, fo, rfl, bA, hA, i0, i1, d0, f0, f1⟩
  · rintro σ' H' ⟨v, i', dg', fo', rfl, bC, hC, a1, a2, a3, a4, a5⟩
    refine ⟨_, rfl, p, _, rfl, G hC pen_digits, _, _, rfl, rfl, _, rfl, ?_⟩
    refine ite2 (fun q1 => ?_) (fun q1 => ?_)
    · refine ⟨_, rfl, p, _, rfl, G hC pen_digits, Or.inl ⟨_, rfl, _, rfl, _, _, rfl, rfl, m0, ?_⟩⟩
      refine ⟨_, rfl, p, _, rfl, G hC pen_digits, _, rfl, _, _, rfl, rfl, ⟨m0, by omega⟩, ?_⟩
      refine ⟨_, rfl, p, _, rfl, Pu hC pen_put_digits, ?_⟩
      exact ⟨_, rfl, fin (bC.trans But.put) upd_same a1 a2 (Int.ediv_nonneg a3 (Int.le_of_lt m0)) a4 a5 (Int.emod_nonneg _ (by omega)) (Int.emod_lt_of_pos _ m0)⟩
    · have big : ct < 1000000000000 := by unfold penMax at hn; omega
      refine ⟨_, rfl, p, _, rfl, G hC pen_fold, _, rfl, p, _, rfl, G hC pen_count, _, _, rfl, rfl, Or.inr ⟨by decide, by decide⟩, _, _, rfl, rfl, _, _, rfl, rfl, ?_⟩
      refine ⟨_, rfl, _, _, rfl, rfl, ⟨by decide, by decide, by omega⟩, _, _, rfl, rfl, (show (0 : Int) < 2305843009213693951 by decide), Or.inl ⟨_, rfl, _, _, rfl, rfl, ⟨by decide, by decide⟩, _, rfl, _, _, rfl, rfl, m0, ?_⟩⟩
      exact fin bC hC a1 a2 a3 a4 a5 (Int.emod_nonneg _ (by omega)) (Int.emod_lt_of_pos _ m0)
theorem ok_law_pick (T : Tx K mg) (F : Cl.Top K mg "_law_pick" s_law_pick ["pen", "some"]) (D_law_draw : Def P w K mg base "_law_draw" 1 ["pen", "many"] spDraw) :
    Def P w K mg base "_law_pick" 2 ["pen", "some"] spPick := by
  refine Def.of F sc_law_pick (fun h => ?_) fun f cd A fr s H vs Q E hr hgd h => ?_
  · obtain ⟨a, c, l, n, xs, rfl, _⟩ := h
    rfl
  obtain ⟨p, c, l, n, xs, rfl, hp, hn, hx, h0, hl, k⟩ := h
  refine ⟨_, (pss_one (ps_ret (pe_ix (kIx K) (pv 1) (pe_d D_law_draw (hr.mono (by decide)) hgd (by rfl) passNo (pa_cons (pv 0) (pa_cons (pe_callB (kLen K) (by rfl) T.n_len bt_len (pa_cons (pv 1) pa_nil)) pa_nil))) (fun _ _ => rfl)))), ?_⟩
  have sq : SqL K H l xs ∨ SqT K H l xs := hx.elim (fun z => Or.inl (SqL.of z)) (fun z => Or.inr (SqT.of z))
  refine ⟨_, rfl, _, rfl, _, rfl, l, xs, rfl, sq, p, c, n, _, rfl, hp, hn, by omega, by omega, fun r H' r0 r1 b hp' => ?_⟩
  have kd := hp.kd b
  obtain ⟨j, rfl⟩ : ∃ j : Nat, r = (j : Int) := ⟨r.toNat, by omega⟩
  have hj : j < xs.length := by omega
  have ej : xs[j]? = some xs[j] := List.getElem?_eq_getElem hj
  have fin := k xs[j] H' (List.getElem_mem hj) b hp'
  rcases hx with hx | hx
  · exact Or.inl ⟨l, xs, _, _, rfl, rfl, SqL.of (kd _ _ rfl hx), atI_nat ej, fin⟩
  · exact Or.inr (Or.inl ⟨l, xs, _, _, rfl, rfl, SqT.of (kd _ _ rfl hx), atI_nat ej, fin⟩)
def spLAround : Sp := fun vs H Q _ => ∃ (v : V) (c : List Int), vs = [v] ∧ Dt H v (ceD c) ∧ Dm c.length ∧ ∀ p H', H p = none → Same H H' → Dt H' (.ref p) (.list ((nbr c).map ceD)) → Q (.ref p) H'
theorem ok_law_around (T : Tx K mg) (F : Cl.Top K mg "_law_around" s_law_around ["cell"]) : Def P w K mg base "_law_around" 1 ["cell"] spLAround := by
  refine Def.of F sc_law_around (fun h => ?_) fun f cd A fr s H vs Q E hr hgd h => ?_
  · obtain ⟨v, c, rfl, _⟩ := h
    rfl
  obtain ⟨v, c, rfl, hd, hn, k⟩ := h
  refine ⟨_, (pss_cons (ps_set (i := 1) sc_law_around.nd rfl (Or.inl rfl) (pe_lst pa_nil))
      (pss_cons (ps_for (passes_of rfl) rfl (pi_range1 (by rfl) T.n_range (pa_cons (pe_callB (kLen K) (by rfl) T.n_len bt_len (pa_cons (pv 0) pa_nil)) pa_nil)) (pg_name (i := 2) sc_law_around.nd rfl (Or.inr rfl))
      (pss_one (ps_set (i := 1) sc_law_around.nd rfl (Or.inl rfl) (pe_op op_cat (pv 1) (pe_lc (own := [("by", 3)]) (g := (gName 3)) (tt := tYes) (by rfl) sc_law_around.nd (kPiL K (pe_lst (pa_cons (pe_un un_neg pe_int) (pa_cons pe_int pa_nil)))) (blkOk_by (own := [("by", 3)]) (N := ["cell", "found", "k", "by"]) (sc := defScope s_law_around) (by decide +kernel)) (fun _ _ _ _ _ => (pg_name (i := 3) sc_law_around.nd rfl (Or.inl rfl))) (fun _ _ _ _ _ => pts_nil) (fun _ _ _ _ _ => (pe_op (kCatT K) (pe_op (kCatT K) (pe_slice (kSlT K) (pv 0) po_none (po_some (pv 2))) (pe_tup (pa_cons (pe_op op_add (pe_ix (kIxT K) (pv 0) (pv 2) (fun _ _ => rfl)) (pv 3)) pa_nil))) (pe_slice (kSlT K) (pv 0) (po_some (pe_op op_add (pv 2) pe_int)) po_none))))))))
      (pss_one (ps_ret (pe_callB cr_srtL (by rfl) T.n_sorted bt_sorted (pa_cons (pv 1) pa_nil)))))), ?_⟩
  have l4 : c.length ≤ 4 := by rcases hn with h | h | h <;> omega
  refine go_seq (go_asgN (go_lst0 fun p0 hp0 => ?_))
  dsimp only
  refine go_seq ?_
  refine for_any (fun i σ' H' => ∃ (vk : Option V) (p : Addr), σ' = [some v, some (.ref p), vk, none] ∧ H p = none ∧ Same H H' ∧ Dt H' (.ref p) (.list (((mstp c.length i).map (addv c)).map ceD)))
    (tells_rng (n := c.length) (fun Q' q' => go_arg1 (go_cb1 (go_var rfl (lenT_dt (hd.same (sameNew hp0)) (by rw [List.length_map]; exact q' _ (Same.refl _)))))) (by omega))
    (fun H1 e1 _ => ⟨none, p0, rfl, hp0, (sameNew hp0).trans e1, (dt_lst .nil hp0).same e1⟩) (fun _ _ _ _ => trivial) ?_ ?_
  · rintro i x σ' H' H'' lt ⟨vk, p, rfl, hp, e1, hf⟩ e2 rfl
    obtain ⟨ci, hci⟩ : ∃ ci, c[i]? = some ci := ⟨c[i], List.getElem?_eq_getElem lt⟩
    have e3 := e1.trans e2
    refine ⟨_, rfl, ?_⟩
    refine lc_any2 (b := fun _ => true) (f := fun j => ceD (addv c (unitC c.length i (if j = 0 then -1 else 1)))) (n := 2) (by decide)
      (tells2_lst (xs := [V.int (-1), V.int 1]) fun Q' q' => ⟨_, rfl, (by show 2 ≤ sizeLine; decide), fun q hq => q' q _ (sameNew hq) (SqL.of upd_same)⟩) ?_ ?_
    · intro j x H1 lj e4 hx
      refine goTo_name ⟨rfl, Same.refl _, et_yes, fun _ => ⟨?_, pu_cell _⟩⟩
      intro H2 e5 Q' q'
      have e6 := (e3.trans e4).trans e5
      have hd6 := hd.same e6
      have hxj : x = V.int (if j = 0 then -1 else 1) := by
        match j, lj, hx with
        | 0, _, hx => exact (Option.some.inj hx).symm
        | 1, _, hx => exact (Option.some.inj hx).symm
      subst hxj
      generalize hby : (if j = 0 then (-1 : Int) else 1) = by1
      refine ⟨_, rfl, _, rfl, _, rfl, slT_dt hd6 fun v1 H3 e7 h1 => ?_⟩
      refine ⟨_, rfl, _, rfl, ixT_dt (d := .int ci) (hd6.same e7) (by rw [List.getElem?_map, hci]; rfl) fun v2 h2 => ?_⟩
      cases h2
      refine ⟨_, rfl, _, _, rfl, rfl, (by show 1 ≤ sizeLine; decide), fun q hq => ?_⟩
      have h3 : Dt (upd H3 q (.tup [V.int (ci + by1)])) (.ref q) (.tuple [.int (ci + by1)]) := dt_tup (.cons (.int _) .nil) hq
      have e8 := sameNew (o := HO.tup [V.int (ci + by1)]) hq
      generalize upd H3 q (.tup [V.int (ci + by1)]) = H4 at h3 e8
      rw [cut_to] at h1
      refine catT_dt (h1.same e8) h3 (by rw [List.length_take, List.length_map]; show min _ _ + 1 ≤ _; omega) fun v3 H5 e9 h4 => ?_
      refine ⟨_, rfl, _, rfl, _, _, rfl, rfl, _, rfl, ?_⟩
      dsimp only [tNoPart]
      have e11 : ((i : Int) + 1) = ((i + 1 : Nat) : Int) := by omega
      rw [e11]
      refine slT_dt (((hd6.same e7).same e8).same e9) fun v4 H6 e10 h5 => ?_
      rw [cut_from] at h5
      refine catT_dt (h4.same e10) h5 (by rw [List.length_append, List.length_take, List.length_drop, List.length_map]; show min _ _ + 1 + _ ≤ _; omega) fun v5 H7 e12 h6 => ?_
      refine q' v5 H7 ((((e7.trans e8).trans e9).trans e10).trans e12) ?_
      have e13 : ((c.map PyData.int).take i ++ [PyData.int (ci + by1)] ++ (c.map PyData.int).drop (i + 1)) = (addv c (unitC c.length i by1)).map PyData.int := by
        rw [← addv_unit hci, List.map_append, List.map_append, List.map_take, List.map_drop]
        rfl
      rw [e13, ← hby] at h6
      exact h6
    · intro D H1 ys hD e4 hD2 hys
      rw [told_all] at hys
      have h1 := (hf.same e2).same e4
      refine cat_dt h1 (.lst hD2 hys) ?_ fun q H2 hq e5 h2 => ?_
      · rw [List.length_map, List.length_map, mstp_len, List.length_map, List.length_range]
        omega
      · have e6 := e3.trans e4
        refine ⟨_, q, rfl, same_free e6 hq, e6.trans e5, ?_⟩
        rw [mstp_succ, List.map_append, List.map_append]
        exact h2
  · rintro σ' H' ⟨vk, p, rfl, hp, e1, hf⟩
    obtain ⟨a, xs, ea, ha, hxs⟩ := hf.lst_ref
    cases ea
    refine ⟨_, rfl, p, xs, _, rfl, ha, hxs, fun d hd' => ?_, fun r ys hr hys => ?_⟩
    · obtain ⟨s, hs, rfl⟩ := List.mem_map.mp hd'
      intro z
      have l1 := stp_len hn s ((mstp_perm hn).mem_iff.mp hs)
      have l2 := addv_len l1
      rw [z] at l2
      rcases hn with h | h | h <;> rw [h] at l2 <;> cases l2
    · rw [srt_mstp hn] at hys
      exact k r _ (same_free e1 hr) (e1.trans (sameNew hr)) (dt_lst hys hr)
end
end K01

namespace K01
open PySem PySem.Spec
open PyProof.Rows hiding St
open L2 Cl
abbrev s_law_plus : Stmt := top 23
theorem sc_law_plus : FnScope ["one", "two", "a", "b"] ["one", "two"] (defScope s_law_plus) := ⟨rfl, rfl, rfl, by decide +kernel, rfl, by decide +kernel, by decide +kernel⟩
abbrev s_law_dict : Stmt := top 25
theorem sc_law_dict : FnScope ["cells", "cell"] ["cells"] (defScope s_law_dict) := ⟨rfl, rfl, rfl, by decide +kernel, rfl, by decide +kernel, by decide +kernel⟩
abbrev s_law_spread : Stmt := top 24
theorem sc_law_spread : FnScope ["cells", "first", "seen", "line", "lap", "other"] ["cells", "first"] (defScope s_law_spread) := ⟨rfl, rfl, rfl, by decide +kernel, rfl, by decide +kernel, by decide +kernel⟩
section
variable {P : Program} {w : World} {K : PySem.W.Frag} {mg : Str → Option Value} {base : Heap}
theorem ok_law_plus (T : Tx K mg) (F : Cl.Top K mg "_law_plus" s_law_plus ["one", "two"]) : Def P w K mg base "_law_plus" 1 ["one", "two"] (spAdded K) := by
  refine Def.of F sc_law_plus (fun h => ?_) fun f cd A fr s H vs Q E hr hgd h => ?_
  · obtain ⟨a, b, x, y, rfl, _⟩ := h
    rfl
  obtain ⟨a, b, x, y, rfl, hx, hy, hl, hz, k⟩ := h
  refine ⟨_, (pss_one (ps_ret (pe_callTy (kTuple K) (by rfl) T.n_tuple bt_tuple (pa_cons (pe_lc (own := [("a", 2), ("b", 3)]) (g := (gTup K 2 (gCons (gName 2) (gCons (gName 3) gNil)))) (tt := tYes) (by rfl) sc_law_plus.nd (kZip K (by rfl) T.n_zip (pa_cons (pv 0) (pa_cons (pv 1) pa_nil))) (blkOk_by (own := [("a", 2), ("b", 3)]) (N := ["one", "two", "a", "b"]) (sc := defScope s_law_plus) (by decide +kernel)) (fun _ _ _ _ _ => (kTg K rfl (pgs_cons (pg_name (i := 2) sc_law_plus.nd rfl (Or.inl rfl)) (pgs_cons (pg_name (i := 3) sc_law_plus.nd rfl (Or.inl rfl)) pgs_nil)))) (fun _ _ _ _ _ => pts_nil) (fun _ _ _ _ _ => (pe_op op_add (pv 2) (pv 3)))) pa_nil)))), ?_⟩
  refine go_cb1 (lc_any (b := fun _ => true) (f := fun i => .int (x.getD i 0 + y.getD i 0)) (n := (x.map V.int).length) ?_ (tells_zip (by rw [List.length_map, List.length_map, hl]) (fun Q' q' => ⟨_, rfl, _, rfl, q'⟩) hx hy) stay_zip ?_ ?_)
  · rw [List.length_map]
    omega
  · rintro i v H' lt e1 ⟨Tt, p, q, rfl, hT, hp, hq⟩
    rw [List.getElem?_map] at hp hq
    obtain ⟨xi, hxi, rfl⟩ := Option.map_eq_some_iff.mp hp
    obtain ⟨yi, hyi, rfl⟩ := Option.map_eq_some_iff.mp hq
    refine goTo_pair (SqT.of hT) ⟨rfl, Same.refl _, et_yes, fun _ => ⟨?_, rfl⟩⟩
    intro H1 e2 Q' q'
    refine ⟨_, rfl, _, rfl, _, _, rfl, rfl, q' _ _ (Same.refl _) ?_⟩
    rw [List.getD_eq_getElem?_getD, List.getD_eq_getElem?_getD, hxi, hyi]
    exact .int _
  · intro D H' ys hD e2 hD2 hys
    rw [told_all, List.length_map] at hys
    have e3 : ((List.range x.length).map fun i => PyData.int (x.getD i 0 + y.getD i 0)) = (addv x y).map PyData.int := by
      unfold addv
      apply List.ext_getElem?
      intro i
      rw [List.getElem?_map, List.getElem?_map]
      rcases Nat.lt_or_ge i x.length with h | h
      · rw [List.getElem?_range h, List.getElem?_eq_getElem (by rw [List.length_zipWith]; omega), List.getElem_zipWith]
        simp [List.getD_eq_getElem?_getD, List.getElem?_eq_getElem h, List.getElem?_eq_getElem (show i < y.length by omega)]
      · rw [List.getElem?_eq_none (by rw [List.length_range]; exact h), List.getElem?_eq_none (by rw [List.length_zipWith]; omega)]
        rfl
    rw [e3] at hys
    refine ⟨D, ys, rfl, Or.inl ⟨SqL.of hD2, fun l hl' => ?_⟩⟩
    exact k _ _ (e2.trans (sameNew hl')) (.tup upd_same (hys.same (sameNew hl')))
def spLDict : Sp := fun vs H Q _ => ∃ (v : V) (S : List (List Int)), vs = [v] ∧ Dt H v (.list (S.map ceD)) ∧ S.length ≤ 1000 ∧ ∀ p H', H p = none → Same H H' → H' p = some (.dT (cdE (once S))) → Q (.ref p) H'
theorem ok_law_dict (T : Tx K mg) (F : Cl.Top K mg "_law_dict" s_law_dict ["cells"]) : Def P w K mg base "_law_dict" 1 ["cells"] spLDict := by
  refine Def.of F sc_law_dict (fun h => ?_) fun f cd A fr s H vs Q E hr hgd h => ?_
  · obtain ⟨v, S, rfl, _⟩ := h
    rfl
  obtain ⟨v, S, rfl, hS, hz, k⟩ := h
  obtain ⟨a, xs, rfl, ha, hx⟩ := hS.lst_ref
  have lx := hx.length
  rw [List.length_map] at lx
  refine ⟨_, (pss_one (ps_ret (pe_callTy (cr_dictP rfl hr.units) (by rfl) T.n_dict bt_dict (pa_cons (pe_lc (own := [("cell", 1)]) (g := (gName 1)) (tt := tYes) (by rfl) sc_law_dict.nd (kPiL K (pv 0)) (blkOk_by (own := [("cell", 1)]) (N := ["cells", "cell"]) (sc := defScope s_law_dict) (by decide +kernel)) (fun _ _ _ _ _ => (pg_name (i := 1) sc_law_dict.nd rfl (Or.inl rfl))) (fun _ _ _ _ _ => pts_nil) (fun _ _ _ _ _ => (pe_tup (pa_cons (pv 1) (pa_cons pe_bl pa_nil))))) pa_nil)))), ?_⟩
  refine go_cb1 (lc_any2 (b := fun _ => true) (f := fun i => pairD (S.getD i [])) (n := xs.length) (by omega) (tells2_lst (xs := xs) fun Q' q' => go_var rfl (q' a _ (Same.refl _) (SqL.of ha))) ?_ ?_)
  · intro i x H' lt e1 hxi
    refine goTo_name ⟨rfl, Same.refl _, et_yes, fun _ => ⟨?_, ?_⟩⟩
    · intro H1 e2 Q' q'
      obtain ⟨d, hd, hx'⟩ := (hx.same (e1.trans e2)).at hxi
      rw [List.getElem?_map] at hd
      obtain ⟨c, hc, rfl⟩ := Option.map_eq_some_iff.mp hd
      refine ⟨_, rfl, (by show 2 ≤ sizeLine; decide), fun q hq => q' _ _ (sameNew hq) ?_⟩
      rw [List.getD_eq_getElem?_getD, hc]
      exact dt_tup (.cons hx' (.cons (.bl true) .nil)) hq
    · show (pu (ceD _) && (true && true)) = true
      rw [pu_cell]
      rfl
  · intro D H' ys hD e2 hD2 hys
    rw [told_all, lx, range_getD S [] pairD] at hys
    exact ⟨D, ys, S, rfl, hD2, hys, fun p hp => k p _ (same_free e2 hp) (e2.trans (sameNew hp)) upd_same⟩
def spSpread : Sp := fun vs H Q _ => ∃ (d : Addr) (v : V) (S : List (List Int)) (c : List Int), vs = [.ref d, v] ∧ H d = some (.dT (cdE S)) ∧ S.Nodup ∧ (∀ x ∈ S, Dm x.length) ∧ Dt H v (ceD c) ∧ c ∈ S ∧ S.length ≤ 1000 ∧
  ∀ p Sn H', H p = none → Same H H' → H' p = some (.dT (cdE Sn)) → Sn.Nodup → (∀ x, x ∈ Sn ↔ x ∈ comp S c) → Q (.ref p) H'
theorem ok_law_spread (T : Tx K mg) (F : Cl.Top K mg "_law_spread" s_law_spread ["cells", "first"]) (D_law_around : Def P w K mg base "_law_around" 1 ["cell"] spLAround) : Def P w K mg base "_law_spread" 2 ["cells", "first"] spSpread := by
  refine Def.of F sc_law_spread (fun h => ?_) fun f cd A fr s H vs Q E hr hgd h => ?_
  · obtain ⟨d, v, S, c, rfl, _⟩ := h
    rfl
  obtain ⟨d, v, S, c, rfl, hd, hS, dm, hv, hc, hz, k⟩ := h
  obtain ⟨t, rfl, ht⟩ := hv.cell
  refine ⟨_, (pss_cons (ps_par (i := 2) (j := 3) (by rfl) sc_law_spread.nd rfl rfl (by decide) rfl rfl (pa_cons (pe_disp1 (units1 hr) (pv 1) pe_bl) (pa_cons (pe_lst (pa_cons (pv 1) pa_nil)) pa_nil)) (by rfl))
      (pss_cons (ps_for (passes_of rfl) rfl (pi_range1 (by rfl) T.n_range (pa_cons (pe_op op_add (pe_callB call_lenC (by rfl) T.n_len bt_len (pa_cons (pv 0) pa_nil)) pe_int) pa_nil)) (pg_name (i := 4) sc_law_spread.nd rfl (Or.inl rfl))
      (pss_cons (ps_if (pt_cmpR (op_eqT hr.units) (pv 3) (pe_lst pa_nil) (nomark _))
      (pss_one ps_break)
      pss_nil)
      (pss_one (ps_for (passes_of rfl) rfl (kPiL K (pe_d D_law_around (hr.mono (by decide)) hgd (by rfl) passNo (pa_cons (pe_bm0 PySem.F.plainAttrs_list PySem.F.slot_list_pop PySem.F.type_list_pop mt_pop (pv 3)) pa_nil))) (pg_name (i := 5) sc_law_spread.nd rfl (Or.inl rfl))
      (pss_one (ps_if (PW.pt (pw_and (pt_cmp (pc_din (hu_of hr) (pv 5) (pv 0))) (pw_and1 (pt_cmp (pc_dnotin (hu_of hr) (pv 5) (pv 2))))))
      (pss_cons (ps_dput (hu_of hr) (pv 2) (pv 5) pe_bl rfl)
      (pss_one (ps_expr (pe_bm PySem.F.plainAttrs_list PySem.F.slot_list_append PySem.F.type_list_append mt_append (pv 3) (pa_cons (pv 5) pa_nil)))))
      pss_nil))))))
      (pss_one (ps_ret (pv 2))))), ?_⟩
  refine fun p hp => ⟨_, rfl, t, cK c, .bl true, rfl, by rw [cK_v]; exact (sameNew hp) _ _ ht, upd_same, _, rfl, (by show 1 ≤ sizeLine; decide), fun ta hta => ⟨_, _, rfl, ?_⟩⟩
  have hta1 : (upd H p (.dT [])) ta = none := by
    by_cases z : ta = p
    · rw [z, upd_same] at hta; cases hta
    · rw [upd_ne z] at hta; exact hta
  have nta : ta ≠ p := fun z => by rw [z, upd_same] at hta; cases hta
  have hta0 : H ta = none := by rw [upd_ne nta] at hta1; exact hta1
  have s0 : SpS H d p ta S c [] [c] (S.filter fun d => decide (d ≠ c)) [c] (upd (upd (upd H p (.dT [])) p (.dT [(cK c, V.bl true)])) ta (.lst [.ref t])) := by
    have sm : Same H (upd (upd (upd H p (.dT [])) p (.dT [(cK c, V.bl true)])) ta (.lst [.ref t])) := same_mut (same_mut (sameNew hp) hp) hta0
    refine ⟨sm, ?_, hp, hta0, ⟨_, upd_same, .cons (hv.same sm) .nil⟩, DI.start hS hc, fun x => by simp, by simp⟩
    rw [upd_ne (Ne.symm nta), upd_same]
    rfl
  generalize upd (upd (upd H p (.dT [])) p (.dT [(cK c, V.bl true)])) ta (.lst [.ref t]) = H1 at s0
  dsimp only
  refine go_seq ?_
  have e11 : ((S.length : Int) + 1) = ((S.length + 1 : Nat) : Int) := by omega
  refine for_any (fun i σ' H' => ∃ (P T Lf Sn : List (List Int)) (vl vo : Option V), σ' = [some (.ref d), some (.ref t), some (.ref p), some (.ref ta), vl, vo] ∧ SpS H d p ta S c P T Lf Sn H' ∧ Clo S P (P ++ T) ∧ P.length = i)
    (tells_rng (n := S.length + 1) (fun Q' q' => go_arg1 (go_op (go_cb1 (go_var rfl ⟨d, S, rfl, s0.same _ _ hd, _, _, rfl, rfl, by dsimp only; rw [e11]; exact q' _ (Same.refl _)⟩)))) (by omega))
    (fun H2 e2 _ => ⟨[], [c], _, [c], none, none, rfl, s0.same' e2, (fun f hf => by cases hf), rfl⟩) (fun _ _ _ _ => trivial) ?_ ?_
  · rintro i x σ' H' H'' lt ⟨P, T, Lf, Sn, vl, vo, rfl, st, cl, pl⟩ e2 rfl
    have st := st.same' e2
    obtain ⟨tvs, t1, t2⟩ := st.tod
    refine ⟨_, rfl, (by show 0 ≤ sizeLine; exact Nat.zero_le _), fun q hq => ⟨.list (T.map ceD), .list (([] : List (List Int)).map ceD), (Dt.lst t1 t2).same (sameNew hq), .lst upd_same .nil, (cmpr_cells _).shaped, (cmpr_cells _).shaped, _, rfl, ?_⟩⟩
    have st := st.same' (sameNew (o := HO.lst []) hq)
    obtain ⟨tvs, t1, t2⟩ := st.tod
    generalize upd H'' q (.lst []) = H2 at st t1 t2
    show if (PyData.eqv (.list (T.map ceD)) (.list (([] : List (List Int)).map ceD))) = true then _ else _
    rw [eqv_cellsL]
    refine ite2 (fun q => ?_) (fun q => ?_)
    · have q := of_decide_eq_true q
      subst q
      obtain ⟨f1, f2⟩ := st.di.fin hS cl
      refine ⟨_, rfl, k p Sn H2 hp st.same st.seen st.nd fun x => ?_⟩
      rw [st.mem x, ← f1, mem_srt, List.append_nil]
    · have q : T ≠ [] := fun z => q (decide_eq_true z)
      obtain ⟨T0, x, rfl⟩ := last_snoc q
      obtain ⟨ws, v, p1, p2, p3⟩ := st.pop
      have hlen := st.di.len
      rw [List.length_append, List.length_singleton] at hlen
      have dx : Dm x.length := dm x (st.di.inn x (by simp)).1
      refine ⟨_, rfl, Or.inl ⟨rfl, _, SqL.of p1⟩, ta, _, v, rfl, rfl, p1, by simp, ?_⟩
      rw [List.dropLast_concat]
      have p4 : (upd H2 ta (.lst ws)) ta = some (.lst ws) := upd_same
      generalize upd H2 ta (.lst ws) = H3 at p2 p3 p4
      refine ⟨v, x, rfl, p2, dx, fun nq H4 hq e4 hu => ?_⟩
      obtain ⟨_, ys, eq, hys, hy2⟩ := hu.lst_ref
      cases eq
      have nqt : nq ≠ ta := fun z => by rw [z, p4] at hq; cases hq
      have sub : ∀ {y : List Int} {T' : List (List Int)} {z : List Int}, y ∈ (P ++ [x]) ++ T' → y ∈ (P ++ [x]) ++ (T' ++ [z]) := fun h => by
        rw [← List.append_assoc]
        exact List.mem_append_left _ h
      refine ⟨nq, rfl, ⟨ys, SqL.of hys⟩, for_list (K := K) (a := nq) (xs := ys) (fun i' σ' H' => ∃ (T' Lf' Sn' : List (List Int)) (vo : Option V), σ' = [some (.ref d), some (.ref t), some (.ref p), some (.ref ta), some (V.int (i : Int)), vo] ∧
        SpS H d p ta S c (P ++ [x]) T' Lf' Sn' H' ∧ H' nq = some (.lst ys) ∧ DtAll H' ys ((nbr x).map ceD) ∧ Clo S P ((P ++ [x]) ++ T') ∧ ∀ y ∈ (nbr x).take i', y ∈ S → y ∈ (P ++ [x]) ++ T') ?_ ?_ ?_ ?_⟩
      · exact ⟨T0, Lf, Sn, vo, rfl, p3.same' e4, hys, hy2, fun f hf y hy hl => mem_pop.mpr (cl f hf y hy hl), fun y hy => by cases hy⟩
      · rintro i' σ' H' _ ⟨T', Lf', Sn', vo', rfl, s1, s2, s3, s4, s5⟩
        exact SqL.of s2
      · rintro i' y' σ' H' hi ⟨T', Lf', Sn', vo', rfl, s1, s2, s3, s4, s5⟩
        obtain ⟨dy, hdy, hy⟩ := s3.at hi
        rw [List.getElem?_map] at hdy
        obtain ⟨y, hyn, rfl⟩ := Option.map_eq_some_iff.mp hdy
        obtain ⟨ty, rfl, hty⟩ := hy.cell
        have tk : (nbr x).take (i' + 1) = (nbr x).take i' ++ [y] := by
          rw [List.take_add_one, hyn]
          rfl
        have yes : (y ∈ S → y ∈ (P ++ [x]) ++ T') → ∀ z ∈ (nbr x).take (i' + 1), z ∈ S → z ∈ (P ++ [x]) ++ T' := fun h z hz hl => by
          rw [tk] at hz
          rcases List.mem_append.mp hz with hz | hz
          · exact s5 z hz hl
          · rw [List.mem_singleton.mp hz] at hl ⊢
            exact h hl
        refine ⟨_, rfl, _, rfl, d, _, rfl, dget_c (s1.same _ _ hd) hty, _, rfl, ?_⟩
        rw [some_ite]
        refine ite2 (fun m => ?_) (fun m => ?_)
        · have m := of_decide_eq_true m
          refine ⟨_, rfl, _, rfl, p, _, rfl, dget_c s1.seen hty, _, rfl, ?_⟩
          rw [some_ite]
          refine ite2 (fun m2 => ?_) (fun m2 => ?_)
          · have m2 : y ∉ Sn' := by simpa using m2
            have m3 : y ∈ Lf' := (s1.di.lf y).mpr ⟨m, fun z => m2 ((s1.mem y).mpr z)⟩
            obtain ⟨tvs', a1, a2, a3, a4, a5⟩ := s1.add hy m3 (by simp : x ∈ P ++ [x]) (List.mem_of_getElem? hyn)
            have hlen' := s1.di.len
            have lsn : Sn'.length ≤ 100000 := by
              have := nodup_len s1.nd fun z hz => (s1.di.inn z ((s1.mem z).mp hz)).1
              omega
            refine ⟨_, rfl, _, rfl, p, _, rfl, dput_c s1.seen hty lsn, ?_⟩
            have a1' : (upd H' p (.dT (cdE (addC Sn' y)))) ta = some (.lst tvs') := by rw [upd_ne a3]; exact a1
            refine ⟨_, rfl, Or.inl ⟨rfl, _, SqL.of a1'⟩, _, rfl, ta, _, .ref ty, rfl, rfl, a1', by rw [a2, sizeLine_eq]; omega, ?_⟩
            refine ⟨T' ++ [y], _, _, _, rfl, a4, ?_, cells_tk a5 s3, fun f hf z hz hl => sub (s4 f hf z hz hl), fun z hz hl => ?_⟩
            · rw [upd_ne nqt, upd_ne (ne_ld s2 s1.seen)]
              exact s2
            · rw [tk] at hz
              rcases List.mem_append.mp hz with hz | hz
              · exact sub (s5 z hz hl)
              · rw [List.mem_singleton.mp hz]
                simp
          · have m2 : y ∈ Sn' := by simpa using m2
            exact ⟨T', Lf', Sn', _, rfl, s1, s2, s3, s4, yes fun _ => (s1.mem y).mp m2⟩
        · have m : y ∉ S := fun z => m (decide_eq_true z)
          exact ⟨T', Lf', Sn', _, rfl, s1, s2, s3, s4, yes fun z => absurd z m⟩
      · rintro σ' H' ⟨T', Lf', Sn', vo', rfl, s1, s2, s3, s4, s5⟩
        refine ⟨P ++ [x], T', Lf', Sn', _, _, rfl, s1, fun f hf y hy hl => ?_, by rw [List.length_append, pl]; rfl⟩
        rcases List.mem_append.mp hf with hf | hf
        · exact s4 f hf y hy hl
        · rw [List.mem_singleton.mp hf] at hy
          refine s5 y ?_ hl
          rw [s3.length, List.length_map, List.take_length]
          exact hy
  · rintro σ' H' ⟨P, T, Lf, Sn, vl, vo, rfl, st, cl, pl⟩
    have := st.di.len
    omega
end
end K01

namespace K01
open PySem PySem.Spec
open PyProof.Rows hiding St
open L2 Cl
abbrev s_law_parts : Stmt := top 26
theorem sc_law_parts : FnScope ["cells", "known", "seen", "found", "cell", "part", "one"] ["cells"] (defScope s_law_parts) := ⟨rfl, rfl, rfl, by decide +kernel, rfl, by decide +kernel, by decide +kernel⟩
section
variable {P : Program} {w : World} {K : PySem.W.Frag} {mg : Str → Option Value} {base : Heap}
def spLParts : Sp := fun vs H Q _ => ∃ (v : V) (S : List (List Int)), vs = [v] ∧ Dt H v (.list (S.map ceD)) ∧ (∀ x ∈ S, Dm x.length) ∧ S.length ≤ 1000 ∧
  ∀ p H', H p = none → Same H H' → Dt H' (.ref p) (.list ((partsC (once S)).map partD)) → Q (.ref p) H'
theorem ok_law_parts (T : Tx K mg) (F : Cl.Top K mg "_law_parts" s_law_parts ["cells"]) (D_law_dict : Def P w K mg base "_law_dict" 1 ["cells"] spLDict) (D_law_spread : Def P w K mg base "_law_spread" 2 ["cells", "first"] spSpread) :
    Def P w K mg base "_law_parts" 3 ["cells"] spLParts := by
  refine Def.of F sc_law_parts (fun h => ?_) fun f cd A fr s H vs Q E hr hgd h => ?_
  · obtain ⟨v, S, rfl, _⟩ := h
    rfl
  obtain ⟨v, S, rfl, hS, dm, hz, k⟩ := h
  refine ⟨_, (pss_cons (ps_par3 (i := 1) (j := 2) (l := 3) (by rfl) sc_law_parts.nd rfl rfl rfl (by decide) (by decide) (by decide) rfl rfl rfl (pa_cons (pe_d D_law_dict (hr.mono (by decide)) hgd (by rfl) passNo (pa_cons (pv 0) pa_nil)) (pa_cons pe_dnewT (pa_cons (pe_lst pa_nil) pa_nil))) (by rfl))
      (pss_cons (ps_for (passes_of rfl) rfl (kPiL K (pe_callB (cr_srtD rfl) (by rfl) T.n_sorted bt_sorted (pa_cons (pv 1) pa_nil))) (pg_name (i := 4) sc_law_parts.nd rfl (Or.inl rfl))
      (pss_one (ps_if (pt_cmp (pc_dnotin (hu_of hr) (pv 4) (pv 2)))
      (pss_cons (ps_set (i := 5) sc_law_parts.nd rfl (Or.inl rfl) (pe_d D_law_spread (hr.mono (by decide)) hgd (by rfl) passNo (pa_cons (pv 1) (pa_cons (pv 4) pa_nil))))
      (pss_cons (ps_lock (ps_for (passes_of rfl) rfl (pi_keys (pv 5)) (pg_name (i := 6) sc_law_parts.nd rfl (Or.inl rfl))
      (pss_one (ps_dput (hu_of hr) (pv 2) (pv 6) pe_bl rfl))))
      (pss_one (ps_expr (pe_bm PySem.F.plainAttrs_list PySem.F.slot_list_append PySem.F.type_list_append mt_append (pv 3) (pa_cons (pe_callTy (kTuple K) (by rfl) T.n_tuple bt_tuple (pa_cons (pe_callB (cr_srtD rfl) (by rfl) T.n_sorted bt_sorted (pa_cons (pv 5) pa_nil)) pa_nil)) pa_nil))))))
      pss_nil)))
      (pss_one (ps_ret (pv 3))))), ?_⟩
  refine go_seq (go_par3 (go_cs1 (go_var rfl ⟨v, S, rfl, hS, hz, fun kd H1 hkd e1 h1 sn hsn => go_lst0 fun fa hfa => ⟨_, _, _, rfl, ?_⟩⟩)))
  have dm' : ∀ x ∈ once S, Dm x.length := fun x hx => dm x (mem_once.mp hx)
  have hS0 := once_nodup S
  have lo := once_len S
  have nks : sn ≠ kd := fun z => by rw [z, h1] at hsn; cases hsn
  have nfs : fa ≠ sn := fun z => by rw [z, upd_same] at hfa; cases hfa
  have hfa1 : H1 fa = none := by rw [upd_ne nfs] at hfa; exact hfa
  have nfk : fa ≠ kd := fun z => by rw [z, h1] at hfa1; cases hfa1
  have hsn0 := same_free e1 hsn
  have hfa0 := same_free e1 hfa1
  have e2 : Same H (upd (upd H1 sn (.dT [])) fa (.lst [])) := same_mut (same_mut e1 hsn0) hfa0
  have k2 : (upd (upd H1 sn (.dT [])) fa (.lst [])) kd = some (.dT (cdE (once S))) := by rw [upd_ne (Ne.symm nfk), upd_ne (Ne.symm nks)]; exact h1
  have s2 : (upd (upd H1 sn (.dT [])) fa (.lst [])) sn = some (.dT (cdE [])) := by rw [upd_ne (Ne.symm nfs), upd_same]; rfl
  have f2 : (upd (upd H1 sn (.dT [])) fa (.lst [])) fa = some (.lst []) := upd_same
  generalize upd (upd H1 sn (.dT [])) fa (.lst []) = H2 at e2 k2 s2 f2
  dsimp only
  refine go_seq ?_
  refine ⟨_, rfl, kd, once S, rfl, k2, fun c hc => (dm' c hc).ne, fun p ys hp hys => ?_⟩
  have hys3 := hys.same (sameNew (o := HO.lst ys) hp)
  have hp0 := same_free e2 hp
  have nfp : fa ≠ p := fun z => by rw [← z, f2] at hp; cases hp
  have e3 := e2.trans (sameNew (o := HO.lst ys) hp)
  have k3 := sameNew (o := HO.lst ys) hp _ _ k2
  have s3 := sameNew (o := HO.lst ys) hp _ _ s2
  have f3 := sameNew (o := HO.lst ys) hp _ _ f2
  have p3 : (upd H2 p (.lst ys)) p = some (.lst ys) := upd_same
  generalize upd H2 p (.lst ys) = H3 at hys3 e3 k3 s3 f3 p3
  refine ⟨p, rfl, ⟨ys, SqL.of p3⟩, for_list (K := K) (a := p) (xs := ys) (fun i σ' H' => ∃ (Sn : List (List Int)) (fvs : List V) (vc vp vo : Option V), σ' = [some v, some (.ref kd), some (.ref sn), some (.ref fa), vc, vp, vo] ∧ Same H H' ∧
    H' kd = some (.dT (cdE (once S))) ∧ H' sn = some (.dT (cdE Sn)) ∧ Sn.Nodup ∧ (∀ x, x ∈ Sn ↔ ∃ q ∈ ((srt (once S)).take i).foldl (metC (once S)) [], x ∈ q) ∧ (∀ x ∈ Sn, x ∈ once S) ∧
    H' fa = some (.lst fvs) ∧ DtAll H' fvs ((((srt (once S)).take i).foldl (metC (once S)) []).map partD) ∧ H' p = some (.lst ys) ∧ DtAll H' ys ((srt (once S)).map ceD)) ?_ ?_ ?_ ?_⟩
  · exact ⟨[], [], none, none, none, rfl, e3, k3, s3, List.nodup_nil, (fun x => ⟨(fun h => by cases h), (fun ⟨q, hq, _⟩ => by cases hq)⟩), (fun x hx => by cases hx), f3, .nil, p3, hys3⟩
  · rintro i σ' H' _ ⟨Sn, fvs, vc, vp, vo, rfl, a1, a2, a3, a4, a5, a6, a7, a8, a9, a10⟩
    exact SqL.of a9
  · rintro i y' σ' H' hi ⟨Sn, fvs, vc, vp, vo, rfl, a1, a2, a3, a4, a5, a6, a7, a8, a9, a10⟩
    obtain ⟨d, hd, hy⟩ := a10.at hi
    rw [List.getElem?_map] at hd
    obtain ⟨c, hc, rfl⟩ := Option.map_eq_some_iff.mp hd
    obtain ⟨tc, rfl, htc⟩ := hy.cell
    have cS : c ∈ once S := mem_srt.mp (List.mem_of_getElem? hc)
    have tk : (srt (once S)).take (i + 1) = (srt (once S)).take i ++ [c] := by
      rw [List.take_add_one, hc]
      rfl
    have lacc := mets_len (once S) ((srt (once S)).take i)
    have lo2 := srt_len (once S)
    rw [List.length_take] at lacc
    rw [tk, mets_snoc]
    generalize ((srt (once S)).take i).foldl (metC (once S)) [] = acc at a5 a8 lacc
    have lf := a8.length
    rw [List.length_map] at lf
    refine ⟨_, rfl, _, rfl, sn, _, rfl, dget_c a3 htc, _, rfl, ?_⟩
    rw [some_ite]
    refine ite2 (fun m => ?_) (fun m => ?_)
    · have m : c ∉ Sn := by simpa using m
      have no : ¬ ∃ q ∈ acc, c ∈ q := fun z => m ((a5 c).mpr z)
      rw [metC_new no]
      refine ⟨_, rfl, _, rfl, kd, .ref tc, once S, c, rfl, a2, hS0, dm', hy, cS, by omega, fun q Pn H4 hq e4 hP ndP memP => ?_⟩
      have cm := comp_of_mem hS0 ndP memP
      have nqk : q ≠ kd := fun z => by rw [z, a2] at hq; cases hq
      have nqs : q ≠ sn := fun z => by rw [z, a3] at hq; cases hq
      have nqf : q ≠ fa := fun z => by rw [z, a7] at hq; cases hq
      have nqp : q ≠ p := fun z => by rw [z, a9] at hq; cases hq
      have hq0 := same_free a1 hq
      -- for one in part
      refine ⟨q, _, hP, True.intro, fun od => ?_⟩
      have subP : ∀ x ∈ Pn, x ∈ once S := fun x hx => (mem_comp.mp ((memP x).mp hx)).1
      refine for_any (fun j σ' H' => ∃ (vo : Option V), σ' = [some v, some (.ref kd), some (.ref sn), some (.ref fa), some (.ref tc), some (.ref q), vo] ∧ H' q = some (.frz od (.dT (cdE Pn))) ∧
        H' sn = some (.dT (cdE ((Pn.take j).foldl addC Sn))) ∧ ∀ b o, H4 b = some o → b ≠ q → b ≠ sn → H' b = some o) (tells_keys (kvs := cdE Pn) (fun Q' q' => go_var rfl q') upd_same) ?_ ?_ ?_ ?_
      · intro H5 e5 h5
        refine ⟨_, rfl, h5, ?_, fun b o hb n1 n2 => e5 _ _ (by rw [upd_ne n1]; exact hb)⟩
        exact e5 _ _ (by rw [upd_ne (Ne.symm nqs)]; exact e4 _ _ a3)
      · rintro j σ' H5 ⟨vo', rfl, b1, _⟩
        exact b1
      · rintro j x σ' H5 H6 lt ⟨vo', rfl, b1, b2, b3⟩ e6 ⟨kk, u, tq, g1, rfl, g3⟩
        rw [List.getElem?_map] at g1
        obtain ⟨z, hz', ez⟩ := Option.map_eq_some_iff.mp g1
        cases ez
        rw [cK_v] at g3
        have c2 := e6 _ _ b2
        have lsn : ((Pn.take j).foldl addC Sn).length ≤ 100000 := by
          have := nodup_len (foldC_nodup (L := Pn.take j) a4) fun x hx => (foldC_mem.mp hx).elim (a6 x) fun h => subP x (List.mem_of_mem_take h)
          omega
        refine ⟨_, rfl, _, rfl, sn, _, rfl, dput_c c2 g3 lsn, ?_⟩
        refine ⟨_, rfl, ?_, ?_, fun b o hb n1 n2 => ?_⟩
        · rw [upd_ne nqs]
          exact e6 _ _ b1
        · rw [upd_same, List.take_add_one, hz', ← foldC_snoc]
          rfl
        · rw [upd_ne n2]
          exact e6 _ _ (b3 b o hb n1 n2)
      · rintro σ' H5 ⟨vo', rfl, b1, b2, b3⟩
        refine ⟨b1, ?_⟩
        have lq : (cdE Pn).length = Pn.length := List.length_map _
        rw [lq, List.take_length] at b2
        have f6 : (upd H5 q (.dT (cdE Pn))) fa = some (.lst fvs) := by rw [upd_ne (Ne.symm nqf)]; exact b3 _ _ (e4 _ _ a7) (Ne.symm nqf) nfs
        have s6 : (upd H5 q (.dT (cdE Pn))) sn = some (.dT (cdE (Pn.foldl addC Sn))) := by rw [upd_ne (Ne.symm nqs)]; exact b2
        have k6 : (upd H5 q (.dT (cdE Pn))) kd = some (.dT (cdE (once S))) := by rw [upd_ne (Ne.symm nqk)]; exact b3 _ _ (e4 _ _ a2) (Ne.symm nqk) (Ne.symm nks)
        have q6 : (upd H5 q (.dT (cdE Pn))) q = some (.dT (cdE Pn)) := upd_same
        have nps : p ≠ sn := ne_ld a9 a3
        have p6 : (upd H5 q (.dT (cdE Pn))) p = some (.lst ys) := by rw [upd_ne (Ne.symm nqp)]; exact b3 _ _ (e4 _ _ a9) (Ne.symm nqp) nps
        have e6 : Same H (upd H5 q (.dT (cdE Pn))) := fun b o hb => by
          have nb : b ≠ q := ne_of_none hb hq0
          rw [upd_ne nb]
          exact b3 b o (e4 _ _ (a1 b o hb)) nb (ne_of_none hb hsn0)
        have kt : Tk H' (upd H5 q (.dT (cdE Pn))) := fun b xs hb => by
          have hb4 := e4 _ _ hb
          have nb : b ≠ q := fun z => by rw [z, hP] at hb4; cases hb4
          rw [upd_ne nb]
          exact b3 b _ hb4 nb (fun z => by rw [z, e4 _ _ a3] at hb4; cases hb4)
        generalize upd H5 q (.dT (cdE Pn)) = H6 at f6 s6 k6 q6 p6 e6 kt
        refine ⟨_, rfl, Or.inl ⟨rfl, _, SqL.of f6⟩, _, rfl, q, Pn, rfl, q6, fun c hc => (dm' c (subP c hc)).ne, fun p1 y1 hp1 hy1 => ⟨p1, y1, rfl, Or.inl ⟨SqL.of upd_same, fun r hr => ?_⟩⟩⟩
        have sm := (sameNew (o := HO.lst y1) hp1).trans (sameNew (o := HO.tup y1) hr)
        have hpart : Dt (upd (upd H6 p1 (.lst y1)) r (.tup y1)) (.ref r) (partD (comp (once S) c)) := by
          rw [← cm]
          exact .tup upd_same (hy1.same sm)
        generalize upd (upd H6 p1 (.lst y1)) r (.tup y1) = H7 at sm hpart
        have f7 := sm _ _ f6
        refine ⟨fa, fvs, _, rfl, rfl, f7, by rw [lf, sizeLine_eq]; omega, ?_⟩
        have kt2 : Tk H7 (upd H7 fa (.lst (fvs ++ [V.ref r]))) := tk_l f7
        have kt3 := (kt.trans (tk_same sm)).trans kt2
        refine ⟨Pn.foldl addC Sn, fvs ++ [V.ref r], _, _, _, rfl, same_mut (e6.trans sm) hfa0, ?_, ?_, foldC_nodup a4, fun x => ?_, fun x hx => (foldC_mem.mp hx).elim (a6 x) (subP x), upd_same, ?_, ?_, cells_tk kt3 a10⟩
        · rw [upd_ne (Ne.symm nfk)]
          exact sm _ _ k6
        · rw [upd_ne (Ne.symm nfs)]
          exact sm _ _ s6
        · rw [foldC_mem, a5 x, memP x]
          constructor
          · rintro (⟨g, hg, hx⟩ | hx)
            · exact ⟨g, List.mem_append_left _ hg, hx⟩
            · exact ⟨_, List.mem_append_right _ (List.mem_singleton.mpr rfl), hx⟩
          · rintro ⟨g, hg, hx⟩
            rcases List.mem_append.mp hg with hg | hg
            · exact .inl ⟨g, hg, hx⟩
            · rw [List.mem_singleton.mp hg] at hx
              exact .inr hx
        · have g := (parts_tk (kt.trans (tk_same sm)) a8).append (.cons hpart .nil)
          exact parts_tk kt2 (by rw [List.map_append]; exact g)
        · rw [upd_ne (Ne.symm nfp)]
          exact sm _ _ p6
    · have m : c ∈ Sn := by simpa using m
      rw [metC_old ((a5 c).mp m)]
      exact ⟨Sn, fvs, _, _, _, rfl, a1, a2, a3, a4, a5, a6, a7, a8, a9, a10⟩
  · rintro σ' H' ⟨Sn, fvs, vc, vp, vo, rfl, a1, a2, a3, a4, a5, a6, a7, a8, a9, a10⟩
    have ly : ys.length = (srt (once S)).length := by rw [a10.length, List.length_map]
    rw [ly, List.take_length] at a8
    exact ⟨_, rfl, k fa H' hfa0 a1 (.lst a7 a8)⟩
end
end K01

namespace Cl
open PySem PySem.Spec
open PyProof.Rows hiding St
open L2
theorem go_lcL {K : PySem.W.Frag} {te e : TE} {g : TG} {tt : TT} {vs : List Nat} {σ : St} {H : Hp} {Q : VK} (h : te σ H fun x H1 => tLc (iList K (tC x)) g tt e vs σ H1 Q) : tLc (iList K te) g tt e vs σ H Q := h
theorem eqv_nil (L : List PyData) : PyData.eqv (.list L) (.list []) = L.isEmpty := by
  rw [PyData.eqv]
  cases L <;> rfl
theorem told_filter {α : Type} (L : List α) (z : α) (b : α → Bool) (g : α → PyData) : told L.length (fun i => b (L.getD i z)) (fun i => g (L.getD i z)) = (L.filter b).map g := by
  have e : (List.range L.length).map (fun i => L.getD i z) = L := by
    apply List.ext_getElem?
    intro i
    rw [List.getElem?_map]
    rcases Nat.lt_or_ge i L.length with h | h
    · rw [List.getElem?_range h]
      simp [List.getD_eq_getElem?_getD, List.getElem?_eq_getElem h]
    · rw [List.getElem?_eq_none (by rw [List.length_range]; exact h), List.getElem?_eq_none h]
      rfl
  have e2 : (L.filter b) = (((List.range L.length).map fun i => L.getD i z).filter b) := by rw [e]
  rw [e2, List.filter_map, List.map_map]
  rfl
theorem mem_dt {H : Hp} : ∀ {ds : List PyData} {vs : List V} {v : V}, DtAll H vs ds → v ∈ vs → ∃ d ∈ ds, Dt H v d
  | [], _, v, h, m => by cases h; cases m
  | d :: ds, _, v, h, m => by
    cases h with
    | cons a b =>
      rcases List.mem_cons.mp m with rfl | m
      · exact ⟨d, List.mem_cons_self, a⟩
      · obtain ⟨e, he, h'⟩ := mem_dt b m
        exact ⟨e, List.mem_cons_of_mem _ he, h'⟩
theorem mem_cell {H : Hp} {S : List (List Int)} {vs : List V} {v : V} (h : DtAll H vs (S.map ceD)) (m : v ∈ vs) : ∃ c ∈ S, Dt H v (ceD c) := by
  obtain ⟨d, hd, h'⟩ := mem_dt h m
  obtain ⟨c, hc, rfl⟩ := List.mem_map.mp hd
  exact ⟨c, hc, h'⟩
/-- no coordinate is beyond m -/
def Near (m : Int) (c : List Int) : Prop := ∀ i ∈ c, -m ≤ i ∧ i ≤ m
theorem Near.mono {m n : Int} {c : List Int} (h : Near m c) (l : m ≤ n) : Near n c := fun i hi => by
  have := h i hi
  omega
theorem Near.addv : ∀ {a b : List Int} {m n : Int}, Near m a → Near n b → Near (m + n) (addv a b)
  | [], _, _, _, _, _ => fun i hi => by cases hi
  | _ :: _, [], _, _, _, _ => fun i hi => by cases hi
  | x :: a, y :: b, m, n, h, g => fun i hi => by
    rcases List.mem_cons.mp (show i ∈ (x + y) :: Cl.addv a b from hi) with rfl | hi
    · have := h x List.mem_cons_self
      have := g y List.mem_cons_self
      omega
    · exact Near.addv (fun i hi => h i (List.mem_cons_of_mem _ hi)) (fun i hi => g i (List.mem_cons_of_mem _ hi)) i hi
theorem near_stp {n : Nat} (h : Dm n) : ∀ s ∈ stp n, ∀ i ∈ s, -1 ≤ i ∧ i ≤ (1 : Int) := by
  rcases h with rfl | rfl | rfl <;> decide
theorem Near.nbr {m : Int} {c d : List Int} (h : Near m c) (dm : Dm c.length) (hd : d ∈ nbr c) : Near (m + 1) d := by
  obtain ⟨s, hs, rfl⟩ := List.mem_map.mp hd
  exact Near.addv h (near_stp dm s hs)
end Cl
namespace K01
open PySem PySem.Spec
open PyProof.Rows hiding St
open L2 Cl
abbrev s_law_any : Stmt := top 30
theorem sc_law_any : FnScope ["value", "item"] ["value"] (defScope s_law_any) := ⟨rfl, rfl, rfl, by decide +kernel, rfl, by decide +kernel, by decide +kernel⟩
abbrev s_law_grown : Stmt := top 27
theorem sc_law_grown : FnScope ["pen", "dimension", "many", "cells", "lap", "free", "cell"] ["pen", "dimension", "many"] (defScope s_law_grown) := ⟨rfl, rfl, rfl, by decide +kernel, rfl, by decide +kernel, by decide +kernel⟩
section
variable {P : Program} {w : World} {K : PySem.W.Frag} {mg : Str → Option Value} {base : Heap}
/-- a value that may be compared and told -/
def spLAny : Sp := fun vs H Q _ => ∃ (v : V) (d : PyData), vs = [v] ∧ Dt H v d ∧ d.weight ≤ 90000 ∧ (∀ ds, d = .tuple ds → puAll ds = true ∧ ∀ e ∈ ds, Cmpr 20 e) ∧ ∀ H', Same H H' → Q (.bl (isAny d)) H'
theorem ok_law_any (T : Tx K mg) (F : Cl.Top K mg "_law_any" s_law_any ["value"]) : Def P w K mg base "_law_any" 1 ["value"] spLAny := by
  refine Def.of F sc_law_any (fun h => ?_) fun f cd A fr s H vs Q E hr hgd h => ?_
  · obtain ⟨v, d, rfl, _⟩ := h
    rfl
  obtain ⟨v, d, rfl, hd, hw, hp, k⟩ := h
  refine ⟨_, (pss_cons (ps_if (PW.pt (pw_or (pt_not (pt_val (pe_callB call_isD (by rfl) T.n_isinstance bt_isinstance (pa_cons (pv 0) (pa_cons (pe_gty (by rfl) T.n_tuple bt_tuple) pa_nil))))) (pw_or1 (pt_cmpR (kNotIn K) (pe_callB (kLen K) (by rfl) T.n_len bt_len (pa_cons (pv 0) pa_nil)) (pe_lst (pa_cons pe_int (pa_cons pe_int (pa_cons pe_int pa_nil)))) (by rfl)))))
      (pss_one (ps_ret pe_bl))
      pss_nil)
      (pss_one (ps_ret (pe_cmpR (op_eqT hr.units) (pe_lc (own := [("item", 1)]) (g := (gName 1)) (by rfl) sc_law_any.nd (kPiT K (pv 0)) (blkOk_by (own := [("item", 1)]) (N := ["value", "item"]) (sc := defScope s_law_any) (by decide +kernel)) (fun _ _ _ _ _ => (pg_name (i := 1) sc_law_any.nd rfl (Or.inl rfl))) (fun _ _ _ _ _ => pts_one (PW.pt (pw_or (pt_val (pe_callB call_isD (by rfl) T.n_isinstance bt_isinstance (pa_cons (pv 1) (pa_cons (pe_gty (by rfl) T.n_bool bt_bool) pa_nil)))) (pw_or1 (pt_not (pt_val (pe_callB call_isD (by rfl) T.n_isinstance bt_isinstance (pa_cons (pv 1) (pa_cons (pe_gty (by rfl) T.n_int bt_int) pa_nil))))))))) (fun _ _ _ _ _ => (pv 1))) (pe_lst pa_nil) (nomark _))))), ?_⟩
  refine ⟨_, rfl, v, d, "tuple", rfl, hd, by decide, _, rfl, ite2 (fun q => ?_) (fun q => ?_)⟩
  · have : isAny d = false := by
      cases d with
      | tuple ds => cases q
      | _ => rfl
    refine iteT ?_
    rw [← this]
    exact k H (Same.refl _)
  · cases hd with
    | @tup a xs ds e ha =>
      have len := ha.length
      obtain ⟨hpu, hcm⟩ := hp ds rfl
      refine ⟨_, rfl, a, xs, rfl, Or.inr (SqT.of e), (by show 3 ≤ sizeLine; decide), fun p hp => ⟨p, _, rfl, Or.inl (SqL.of upd_same), rfl, rfl, _, rfl, ?_⟩⟩
      have e0 : inV (V.int xs.length) [V.int 2, V.int 3, V.int 4] = (xs.length == 2 || (xs.length == 3 || xs.length == 4)) := by
        have e (a b : Nat) : eqV (V.int a) (V.int b) = (b == a) := by
          show ((a : Int) == (b : Int)) = (b == a)
          rw [Bool.eq_iff_iff]
          simp
          omega
        have e2 := e 2 xs.length
        have e3 := e 3 xs.length
        have e4 := e 4 xs.length
        simp only [inV, List.any_cons, List.any_nil, Bool.or_false]
        rw [← e2, ← e3, ← e4]
        rfl
      have hp1 := sameNew (o := HO.lst [V.int 2, V.int 3, V.int 4]) hp
      generalize upd H p (.lst [V.int 2, V.int 3, V.int 4]) = H1 at hp1
      have dmv : isAny (.tuple ds) = ((xs.length == 2 || (xs.length == 3 || xs.length == 4)) && ds.all whl) := by
        show (decide ((ds.length : Int) = 2) && ds.all whl || (decide ((ds.length : Int) = 3) && ds.all whl || decide ((ds.length : Int) = 4) && ds.all whl)) = _
        rw [len]
        cases ds.all whl with
        | true =>
          rw [Bool.eq_iff_iff]
          simp
          omega
        | false => simp
      refine ite2 (fun q2 => ?_) (fun q2 => ?_)
      · have : isAny (.tuple ds) = false := by
          rw [dmv, ← e0]
          have : inV (V.int xs.length) [V.int 2, V.int 3, V.int 4] = false := by simpa using q2
          rw [this]
          rfl
        rw [← this]
        exact k _ hp1
      · have q3 : (xs.length == 2 || (xs.length == 3 || xs.length == 4)) = true := by
          rw [← e0]
          simpa using q2
        dsimp only [tNext]
        refine go_ret (go_op (lc_any (b := fun i => !whl (ds.getD i .none)) (f := fun i => ds.getD i .none) (n := xs.length) ?_ (tells_tup fun Q' q' => ⟨_, rfl, q' H1 (Same.refl _) (SqT.of (hp1 _ _ e))⟩) stay_tup ?_ ?_))
        · have h1 := weight_all (ds := ds)
          have h2 : PyData.weightAll ds ≤ 90000 := hw
          omega
        · intro i x H' lt e1 hx
          obtain ⟨d', hd', hx'⟩ := ((ha.same hp1).same e1).at hx
          have ed : ds.getD i .none = d' := by rw [List.getD_eq_getElem?_getD, hd']; rfl
          refine goTo_name ⟨rfl, Same.refl _, ?_, fun _ => ⟨?_, ?_⟩⟩
          · intro H2 e2 Q' q'
            have hx2 := hx'.same e2
            rw [ed] at q'
            refine ⟨_, rfl, x, d', "bool", rfl, hx2, by decide, _, rfl, ite2 (fun q => ?_) (fun q => ?_)⟩
            · have : (!whl d') = true := by
                cases d' <;> first | rfl | cases q
              rw [← this]
              exact q' _ (Same.refl _)
            · refine ⟨_, rfl, x, d', "int", rfl, hx2, by decide, _, rfl, ?_⟩
              have : (!whl d') = !isTy "int" d' := by
                cases d' <;> first | rfl | (exact absurd rfl q)
              rw [this] at q'
              exact q' _ (Same.refl _)
          · rw [ed]
            exact ed_var rfl hx'
          · rw [ed]
            have : ∀ {ds : List PyData} {i : Nat} {d : PyData}, puAll ds = true → ds[i]? = some d → pu d = true := by
              intro ds
              induction ds with
              | nil => intro i d _ h; simp at h
              | cons a ds ih =>
                intro i d h g
                obtain ⟨h1, h2⟩ := Bool.and_eq_true_iff.mp (show (pu a && puAll ds) = true from h)
                cases i with
                | zero =>
                  have g : a = d := by simpa using g
                  rw [← g]
                  exact h1
                | succ i => exact ih h2 (by simpa using g)
            exact this hpu hd'
        · intro D H' ys hD e2 hD2 hys
          rw [len, told_filter ds .none (fun d => !whl d) (fun d => d), List.map_id'] at hys
          refine go_lst0 fun q hq => ⟨_, _, (Dt.lst hD2 hys).same (sameNew hq), .lst upd_same .nil, (Cmpr.lst (n := 20) fun e he => hcm e ((List.mem_filter.mp he).1)).shaped, (Cmpr.lst (n := 20) fun e he => by cases he).shaped, ?_⟩
          have e5 : PyData.eqv (.list (ds.filter fun d => !whl d)) (.list []) = isAny (.tuple ds) := by
            rw [eqv_nil, dmv, q3, Bool.true_and, Bool.eq_iff_iff]
            simp
          show Q (.bl (PyData.eqv (.list (ds.filter fun d => !whl d)) (.list []))) _
          rw [e5]
          exact k _ ((hp1.trans e2).trans (sameNew hq))
    | _ => exact absurd rfl q
/-- so many cells that hang together -/
def spGrown : Sp := fun vs H Q _ => ∃ (p cc : Addr) (n d m : Nat), vs = [.ref p, .int d, .int m] ∧ Pen H p cc n ∧ n + 100 < penMax ∧ Dm d ∧ 0 < m ∧ m ≤ 6 ∧
  ∀ (a : Addr) (S : List (List Int)) (H' : Hp), H a = none → But p H H' → Pen H' p cc (n + 12) → Dt H' (.ref a) (.list (S.map ceD)) → 0 < S.length → S.length ≤ m → (∀ x ∈ S, x.length = d ∧ Near 6 x) → Q (.ref a) H'
theorem ok_law_grown (T : Tx K mg) (F : Cl.Top K mg "_law_grown" s_law_grown ["pen", "dimension", "many"]) (D_law_pick : Def P w K mg base "_law_pick" 2 ["pen", "some"] spPick)
   (D_law_around : Def P w K mg base "_law_around" 1 ["cell"] spLAround) : Def P w K mg base "_law_grown" 3 ["pen", "dimension", "many"] spGrown := by
  refine Def.of F sc_law_grown (fun h => ?_) fun f cd A fr s H vs Q E hr hgd h => ?_
  · obtain ⟨p, cc, n, d, m, rfl, _⟩ := h
    rfl
  obtain ⟨p, cc, n, d, m, rfl, hp, hn, hd, hm, hm6, k⟩ := h
  refine ⟨_, (pss_cons (ps_set (i := 3) sc_law_grown.nd rfl (Or.inr rfl) (pe_lst (pa_cons (pe_op (kRepT K) (pe_tup (pa_cons pe_int pa_nil)) (pv 1)) pa_nil)))
      (pss_cons (ps_for (passes_of rfl) rfl (pi_range1 (by rfl) T.n_range (pa_cons (pe_op op_sub (pv 2) pe_int) pa_nil)) (pg_name (i := 4) sc_law_grown.nd rfl (Or.inl rfl))
      (pss_cons (ps_setLc (i := 5) (own := [("cell", 6)]) (g := (gName 6)) (by rfl) sc_law_grown.nd rfl rfl (sw_true rfl rfl rfl (by decide +kernel)) (kPiL K (pe_d D_law_around (hr.mono (by decide)) hgd (by rfl) passNo (pa_cons (pe_d D_law_pick (hr.mono (by decide)) hgd (by rfl) passNo (pa_cons (pv 0) (pa_cons (pv 3) pa_nil))) pa_nil))) (blkOk_by (own := [("cell", 6)]) (N := ["pen", "dimension", "many", "cells", "lap", "free", "cell"]) (sc := defScope s_law_grown) (by decide +kernel)) (fun _ _ _ _ _ => (pg_name (i := 6) sc_law_grown.nd rfl (Or.inl rfl))) (fun _ _ _ _ _ => pts_one (pt_cmpR (op_notInT (units65 hr)) (pv 6) (pv 3) (by rfl))) (fun _ _ _ _ _ => (pv 6)))
      (pss_one (ps_set (i := 3) sc_law_grown.nd rfl (Or.inr rfl) (pe_op op_cat (pv 3) (pe_ifExp (pt_cmpR (op_neT hr.units) (pv 5) (pe_lst pa_nil) (nomark _)) (pe_lst (pa_cons (pe_d D_law_pick (hr.mono (by decide)) hgd (by rfl) passNo (pa_cons (pv 0) (pa_cons (pv 5) pa_nil))) pa_nil)) (pe_lst pa_nil)))))))
      (pss_one (ps_ret (pv 3))))), ?_⟩
  refine ⟨(by show 1 ≤ sizeLine; decide), fun t ht => ⟨_, rfl, t, (d : Int), [V.int 0], rfl, rfl, SqT.of upd_same, (fun z => by cases z), ?_, ?_, (by show 1 ≤ 1000; decide), fun u hu => ⟨(by show 1 ≤ sizeLine; decide), fun a ha => ?_⟩⟩⟩
  · rcases hd with h | h | h <;> rw [h] <;> decide
  · rcases hd with h | h | h <;> rw [h] <;> decide
  have s1 : Same H (upd (upd (upd H t (.tup [V.int 0])) u (.tup (List.replicate (d : Int).toNat [V.int 0]).flatten)) a (.lst [.ref u])) :=
    ((sameNew ht).trans (sameNew hu)).trans (sameNew ha)
  have z1 : (List.replicate (d : Int).toNat [V.int 0]).flatten = (List.replicate d (0 : Int)).map V.int := by
    rcases hd with h | h | h <;> rw [h] <;> rfl
  have c1 : Dt (upd (upd (upd H t (.tup [V.int 0])) u (.tup (List.replicate (d : Int).toNat [V.int 0]).flatten)) a (.lst [.ref u])) (.ref a) (.list (([List.replicate d (0 : Int)]).map ceD)) := by
    refine .lst upd_same (.cons (cell_dt ?_) .nil)
    rw [upd_ne (fun z => by rw [← z, upd_same] at ha; cases ha), upd_same, z1]
  have a0 : H a = none := same_free ((sameNew ht).trans (sameNew hu)) ha
  generalize upd (upd (upd H t (.tup [V.int 0])) u (.tup (List.replicate (d : Int).toNat [V.int 0]).flatten)) a (.lst [.ref u]) = H1 at s1 c1
  dsimp only
  refine go_seq ?_
  refine for_any (fun i σ' H' => ∃ (a : Addr) (S : List (List Int)) (vl vf : Option V), σ' = [some (.ref p), some (.int d), some (.int m), some (.ref a), vl, vf, none] ∧ H a = none ∧ But p H H' ∧ Pen H' p cc (n + 2 * i) ∧
    Dt H' (.ref a) (.list (S.map ceD)) ∧ 0 < S.length ∧ S.length ≤ i + 1 ∧ ∀ x ∈ S, x.length = d ∧ Near (i : Int) x)
    (tells_rng (n := m - 1) (fun Q' q' => ⟨_, rfl, _, _, rfl, rfl, ?_⟩) (by omega)) ?_ (fun _ _ _ _ => trivial) ?_ ?_
  · have : (m : Int) - 1 = ((m - 1 : Nat) : Int) := by omega
    dsimp only
    rw [this]
    exact q' _ (Same.refl _)
  · intro H2 e2 _
    refine ⟨a, [List.replicate d 0], none, none, rfl, a0, But.of (s1.trans e2), (hp.same s1).same e2, c1.same e2, (by show 0 < 1; decide), (by show 1 ≤ 1; decide), fun x hx => ?_⟩
    rw [List.mem_singleton.mp hx]
    exact ⟨List.length_replicate, fun i hi => by rw [(List.mem_replicate.mp hi).2]; decide⟩
  · rintro i x σ' H2 H3 lt ⟨a, S, vl, vf, rfl, ha, b2, p2, c2, l0, l1, near⟩ e3 rfl
    have b3 := b2.same e3
    have p3 := p2.same e3
    have c3 := c2.same e3
    obtain ⟨_, xs, eq, hxs, hcs⟩ := c3.lst_ref
    cases eq
    have lx := hcs.length
    rw [List.length_map] at lx
    refine go_seq (go_asgN (go_lcL (go_cs1 ⟨_, rfl, _, rfl, p, cc, a, n + 2 * i, xs, rfl, p3, by omega, Or.inl hxs, by omega, by omega, fun y H4 hy b4 p4 => ?_⟩)))
    have kd4 := p3.kd b4
    obtain ⟨c, hc, hyc⟩ := mem_cell hcs hy
    obtain ⟨lc, nc⟩ := near c hc
    have dmc : Dm c.length := by rw [lc]; exact hd
    refine ⟨y, c, rfl, hyc.mono kd4, dmc, fun q H5 hq e5 hq5 => ?_⟩
    have c5 := (c3.mono kd4).same e5
    obtain ⟨_, ys, eq, hys, hcy⟩ := hq5.lst_ref
    cases eq
    have ly := hcy.length
    rw [List.length_map] at ly
    refine lc_any (b := fun i => !decide ((nbr c).getD i [] ∈ S)) (f := fun i => ceD ((nbr c).getD i [])) (n := ys.length) ?_ (tells_lst (a := q) (xs := ys) fun Q' q' => q' _ (Same.refl _) (SqL.of hys)) stay_lst ?_ ?_
    · rw [ly, nbr, List.length_map]
      rcases dmc with h | h | h <;> rw [h] <;> decide
    · intro j z H6 ltj e6 hz
      obtain ⟨d', hd', hz'⟩ := (hcy.same e6).at hz
      rw [List.getElem?_map] at hd'
      obtain ⟨cz, hcz, rfl⟩ := Option.map_eq_some_iff.mp hd'
      have ecz : (nbr c).getD j [] = cz := by rw [List.getD_eq_getElem?_getD, hcz]; rfl
      rw [ecz]
      refine goTo_name ⟨rfl, Same.refl _, ?_, fun _ => ⟨ed_var rfl hz', pu_cell _⟩⟩
      intro H7 e7 Q' q'
      refine ⟨_, rfl, _, rfl, _, _, hz'.same e7, (c5.same e6).same e7, (cmpr_cell _).shaped, (cmpr_cells _).shaped, _, rfl, ?_⟩
      show Q' (!((S.map ceD).any fun z => PyData.eqv z (ceD cz))) H7
      rw [any_cell]
      exact q' _ (Same.refl _)
    · intro D H6 zs hD e6 hD6 hzs
      rw [ly, told_filter (nbr c) [] (fun x => !decide (x ∈ S)) ceD] at hzs
      have c6 := c5.same e6
      have p6 := (p4.same e5).same e6
      have b6 : But p H H6 := ((b3.trans b4).same e5).same e6
      have nF : ∀ x ∈ (nbr c).filter fun x => !decide (x ∈ S), x.length = d ∧ Near ((i : Int) + 1) x := fun x hx => by
        have hx := (List.mem_filter.mp hx).1
        exact ⟨(nbr_len dmc hx).trans lc, nc.nbr dmc hx⟩
      have nl : ((nbr c).filter fun x => !decide (x ∈ S)).length ≤ 100 := by
        refine Nat.le_trans (List.length_filter_le _ _) ?_
        rw [nbr, List.length_map]
        rcases dmc with h | h | h <;> rw [h] <;> decide
      generalize (nbr c).filter (fun x => !decide (x ∈ S)) = Fr at hzs nF nl
      have lz := hzs.length
      rw [List.length_map] at lz
      dsimp only
      refine go_asgN ?_
      refine go_op ?_
      refine ⟨_, rfl, ?_⟩
      refine ⟨_, rfl, (by show 0 ≤ sizeLine; exact Nat.zero_le _), fun q2 hq2 => ⟨.list (Fr.map ceD), .list (([] : List (List Int)).map ceD), (Dt.lst hD6 hzs).same (sameNew hq2), .lst upd_same .nil, (cmpr_cells _).shaped, (cmpr_cells _).shaped, _, rfl, ?_⟩⟩
      have e7 := sameNew (o := HO.lst []) hq2
      generalize upd H6 q2 (.lst []) = H7 at e7
      have c7 := c6.same e7
      have p7 := p6.same e7
      have b7 := b6.same e7
      have D7 := e7 _ _ hD6
      have z7 := hzs.same e7
      show if (!(PyData.eqv (.list (Fr.map ceD)) (.list (([] : List (List Int)).map ceD)))) = true then _ else _
      rw [eqv_cellsL]
      refine ite2 (fun q => ?_) (fun q => ?_)
      · have q : Fr ≠ [] := by simpa using q
        have l2 : 0 < Fr.length := List.length_pos_iff.mpr q
        refine ⟨_, rfl, _, rfl, p, cc, D, n + 2 * i + 1, zs, rfl, p7, by omega, Or.inl D7, by omega, by omega, fun y2 H8 hy2 b8 p8 => ⟨(by show 1 ≤ sizeLine; decide), fun q3 hq3 => ?_⟩⟩
        obtain ⟨g, hg, hyg⟩ := mem_cell z7 hy2
        have kd8 := p7.kd b8
        have e9 := sameNew (o := HO.lst [y2]) hq3
        refine cat_dt ((c7.mono kd8).same e9) (ds := S.map ceD) (es := [g].map ceD) (.lst upd_same (.cons ((hyg.mono kd8).same e9) .nil)) ?_ fun r H10 hr e10 h10 => ?_
        · rw [List.length_map]
          show S.length + 1 ≤ 100000
          omega
        rw [← List.map_append] at h10
        have hr8 := same_free e9 hr
        refine ⟨r, S ++ [g], _, _, rfl, p8.free (b7.trans b8) hr8, ((b7.trans b8).same e9).same e10, ((p8.same e9).same e10).le (by omega), h10, by simp, by simp; omega, fun x hx => ?_⟩
        · rcases List.mem_append.mp hx with hx | hx
          · exact ⟨(near x hx).1, (near x hx).2.mono (by omega)⟩
          · rw [List.mem_singleton.mp hx]
            exact ⟨(nF g hg).1, by have := (nF g hg).2; simpa using this⟩
      · refine go_lst0 fun q3 hq3 => ?_
        have e9 := sameNew (o := HO.lst []) hq3
        refine cat_dt (c7.same e9) (ds := S.map ceD) (es := ([] : List (List Int)).map ceD) (.lst upd_same .nil) ?_ fun r H10 hr e10 h10 => ?_
        · rw [List.length_map]
          show S.length + 0 ≤ 100000
          omega
        have h10 : Dt H10 (.ref r) (.list (S.map ceD)) := by simpa using h10
        refine ⟨r, S, _, _, rfl, p7.free b7 (same_free e9 hr), (b7.same e9).same e10, ((p7.same e9).same e10).le (by omega), h10, l0, by omega, fun x hx => ⟨(near x hx).1, (near x hx).2.mono (by omega)⟩⟩
  · rintro σ' H2 ⟨a, S, vl, vf, rfl, ha, b2, p2, c2, l0, l1, near⟩
    exact ⟨_, rfl, k a S H2 ha b2 (p2.le (by omega)) c2 l0 (by omega) fun x hx => ⟨(near x hx).1, (near x hx).2.mono (by omega)⟩⟩
end
end K01

namespace K01
open PySem PySem.Spec
open PyProof.Rows hiding St
open L2 Cl
abbrev s_law_turned : Stmt := top 28
theorem sc_law_turned : FnScope ["pen", "cells", "dimension", "axes", "order", "lap", "signs", "by", "found", "cell", "axis", "k"] ["pen", "cells"] (defScope s_law_turned) := ⟨rfl, rfl, rfl, by decide +kernel, rfl, by decide +kernel, by decide +kernel⟩
section
variable {P : Program} {w : World} {K : PySem.W.Frag} {mg : Str → Option Value} {base : Heap}
theorem go_at0 {te : TE} {σ : St} {H : Hp} {Q : VK} (h : te σ H fun x H1 => rIxL K x (.int ((0 : Nat) : Int)) H1 Q) : tOp (rIxL K) te (tC (.int 0)) σ H Q := h
theorem map_erase {α β : Type} (f : α → β) : ∀ (l : List α) (k : Nat), (l.map f).eraseIdx k = (l.eraseIdx k).map f
  | [], _ => rfl
  | _ :: _, 0 => rfl
  | x :: l, k + 1 => congrArg (f x :: ·) (map_erase f l k)
theorem pop_ix {n : Nat} {r : Int} (h0 : 0 ≤ r) (h1 : r < n) : seqIndex? r n = some r.toNat := by
  refine (ixN_seq (n := n) (i := r) (j := r.toNat) ?_).1
  unfold ixN
  rw [if_pos h0, if_pos h1]
/-- some cells turned round and moved -/
def spTurned : Sp := fun vs H Q _ => ∃ (p cc : Addr) (n d : Nat) (m : Int) (v : V) (S : List (List Int)), vs = [.ref p, v] ∧ Pen H p cc n ∧ n + 100 < penMax ∧ Dt H v (.list (S.map ceD)) ∧ 0 < S.length ∧ S.length ≤ 1000 ∧ Dm d ∧ 0 ≤ m ∧ m ≤ 1000000 ∧
  (∀ x ∈ S, x.length = d ∧ Near m x) ∧
  ∀ (a : Addr) (S' : List (List Int)) (H' : Hp), H a = none → But p H H' → Pen H' p cc (n + 12) → Dt H' (.ref a) (.list (S'.map ceD)) → S'.length = S.length → (∀ x ∈ S', x.length = d ∧ Near (m + 45000) x) → Q (.ref a) H'
theorem ok_law_turned (T : Tx K mg) (F : Cl.Top K mg "_law_turned" s_law_turned ["pen", "cells"]) (D_law_draw : Def P w K mg base "_law_draw" 1 ["pen", "many"] spDraw) (D_law_pick : Def P w K mg base "_law_pick" 2 ["pen", "some"] spPick) :
   Def P w K mg base "_law_turned" 3 ["pen", "cells"] spTurned := by
  refine Def.of F sc_law_turned (fun h => ?_) fun f cd A fr s H vs Q E hr hgd h => ?_
  · obtain ⟨p, cc, n, d, m, v, S, rfl, _⟩ := h
    rfl
  obtain ⟨p, cc, n, d, m, v, S, rfl, hp, hn, hS, l0, l1, hd, m0, m1, near, k⟩ := h
  have d4 : d ≤ 4 := by rcases hd with h | h | h <;> rw [h] <;> decide
  refine ⟨_, (pss_cons (ps_set (i := 2) sc_law_turned.nd rfl (Or.inl rfl) (pe_callB (kLen K) (by rfl) T.n_len bt_len (pa_cons (pe_ix (kIxL K) (pv 1) pe_int (fun _ _ => rfl)) pa_nil)))
      (pss_cons (ps_asg (pe_tup (pa_cons (pe_listRg rfl (by rfl) T.n_list (prg_1 (by rfl) T.n_range (pv 2))) (pa_cons (pe_lst pa_nil) pa_nil))) (kTg K rfl (pgs_cons (pg_name (i := 3) sc_law_turned.nd rfl (Or.inl rfl)) (pgs_cons (pg_name (i := 4) sc_law_turned.nd rfl (Or.inr rfl)) pgs_nil))))
      (pss_cons (ps_for (passes_of rfl) rfl (pi_range1 (by rfl) T.n_range (pa_cons (pv 2) pa_nil)) (pg_name (i := 5) sc_law_turned.nd rfl (Or.inl rfl))
      (pss_one (ps_expr (pe_bm PySem.F.plainAttrs_list PySem.F.slot_list_append PySem.F.type_list_append mt_append (pv 4) (pa_cons (pe_bm PySem.F.plainAttrs_list PySem.F.slot_list_pop PySem.F.type_list_pop mt_popAt (pv 3) (pa_cons (pe_d D_law_draw (hr.mono (by decide)) hgd (by rfl) passNo (pa_cons (pv 0) (pa_cons (pe_callB (kLen K) (by rfl) T.n_len bt_len (pa_cons (pv 3) pa_nil)) pa_nil))) pa_nil)) pa_nil)))))
      (pss_cons (ps_set (i := 6) sc_law_turned.nd rfl (Or.inr rfl) (pe_lc (own := [("axis", 10)]) (g := (gName 10)) (tt := tYes) (by rfl) sc_law_turned.nd (kPiL K (pv 4)) (blkOk_by (own := [("axis", 10)]) (N := ["pen", "cells", "dimension", "axes", "order", "lap", "signs", "by", "found", "cell", "axis", "k"]) (sc := defScope s_law_turned) (by decide +kernel)) (fun _ _ _ _ _ => (pg_name (i := 10) sc_law_turned.nd rfl (Or.inl rfl))) (fun _ _ _ _ _ => pts_nil) (fun _ _ _ _ _ => (pe_d D_law_pick (hr.mono (by decide)) hgd (by rfl) passNo (pa_cons (pv 0) (pa_cons (pe_lst (pa_cons pe_int (pa_cons (pe_un un_neg pe_int) pa_nil))) pa_nil))))))
      (pss_cons (ps_set (i := 7) sc_law_turned.nd rfl (Or.inr rfl) (pe_lc (own := [("axis", 10)]) (g := (gName 10)) (tt := tYes) (by rfl) sc_law_turned.nd (kPiL K (pv 4)) (blkOk_by (own := [("axis", 10)]) (N := ["pen", "cells", "dimension", "axes", "order", "lap", "signs", "by", "found", "cell", "axis", "k"]) (sc := defScope s_law_turned) (by decide +kernel)) (fun _ _ _ _ _ => (pg_name (i := 10) sc_law_turned.nd rfl (Or.inl rfl))) (fun _ _ _ _ _ => pts_nil) (fun _ _ _ _ _ => (pe_d D_law_pick (hr.mono (by decide)) hgd (by rfl) passNo (pa_cons (pv 0) (pa_cons (pe_lst (pa_cons pe_int (pa_cons pe_int (pa_cons pe_int (pa_cons (pe_un un_neg pe_int) (pa_cons pe_int pa_nil)))))) pa_nil))))))
      (pss_cons (ps_set (i := 8) sc_law_turned.nd rfl (Or.inl rfl) (pe_lst pa_nil))
      (pss_cons (ps_for (passes_of rfl) rfl (kPiL K (pv 1)) (pg_name (i := 9) sc_law_turned.nd rfl (Or.inr rfl))
      (pss_one (ps_expr (pe_bm PySem.F.plainAttrs_list PySem.F.slot_list_append PySem.F.type_list_append mt_append (pv 8) (pa_cons (pe_callTy (kTuple K) (by rfl) T.n_tuple bt_tuple (pa_cons (pe_lc (own := [("k", 11)]) (g := (gName 11)) (tt := tYes) (by rfl) sc_law_turned.nd (pi_range1 (by rfl) T.n_range (pa_cons (pv 2) pa_nil)) (blkOk_by (own := [("k", 11)]) (N := ["pen", "cells", "dimension", "axes", "order", "lap", "signs", "by", "found", "cell", "axis", "k"]) (sc := defScope s_law_turned) (by decide +kernel)) (fun _ _ _ _ _ => (pg_name (i := 11) sc_law_turned.nd rfl (Or.inl rfl))) (fun _ _ _ _ _ => pts_nil) (fun _ _ _ _ _ => (pe_op op_add (pe_op op_mul (pe_ix (kIxL K) (pv 6) (pv 11) (fun _ _ => rfl)) (pe_ix (kIxT K) (pv 9) (pe_ix (kIxL K) (pv 4) (pv 11) (fun _ _ => rfl)) (fun _ _ => rfl))) (pe_ix (kIxL K) (pv 7) (pv 11) (fun _ _ => rfl))))) pa_nil)) pa_nil)))))
      (pss_one (ps_ret (pv 8)))))))))), ?_⟩
  have c0 : S[0]? = some S[0] := List.getElem?_eq_getElem l0
  have e0 := (near S[0] (List.getElem_mem l0)).1
  refine go_seq (go_asgN (go_cb1 (go_at0 ⟨_, rfl, ?_⟩)))
  refine ixL_dt (j := 0) (d := ceD S[0]) hS (by rw [List.getElem?_map, c0]; rfl) fun u hu => ?_
  refine lenT_dt hu ?_
  rw [List.length_map, e0]
  refine go_seq ⟨_, rfl, _, rfl, RgOk.of_le (by omega) (by omega) (by omega) (by omega), fun ax hax => ⟨(by show 0 ≤ sizeLine; exact Nat.zero_le _), fun od hod => ⟨(by show 2 ≤ sizeLine; decide), fun tt htt => ?_⟩⟩⟩
  refine ⟨tt, _, rfl, SqT.of upd_same, rfl, _, _, rfl, _, _, rfl, rfl, ?_⟩
  have hod1 : H od = none := same_free (sameNew hax) hod
  have nod : od ≠ ax := fun z => by rw [z, upd_same] at hod; cases hod
  have ntt : tt ≠ od := fun z => by rw [z, upd_same] at htt; cases htt
  have nta : tt ≠ ax := fun z => by rw [z, upd_ne (Ne.symm nod), upd_same] at htt; cases htt
  have s1 : Same H (upd (upd (upd H ax (.lst (rgV 0 d))) od (.lst [])) tt (.tup [.ref ax, .ref od])) := ((sameNew hax).trans (sameNew hod)).trans (sameNew htt)
  have erg : rgV 0 d = ((List.range d).map fun i => ((i : Nat) : Int)).map V.int := by
    unfold rgV
    rw [List.map_map, show ((d : Int) - 0).toNat = d from by omega]
    exact List.map_congr_left fun i _ => congrArg V.int (Int.zero_add _)
  have ha1 : (upd (upd (upd H ax (.lst (rgV 0 d))) od (.lst [])) tt (.tup [.ref ax, .ref od])) ax = some (.lst (((List.range d).map fun i => ((i : Nat) : Int)).map V.int)) := by
    rw [upd_ne (Ne.symm nta), upd_ne (Ne.symm nod), upd_same, erg]
  have ho1 : (upd (upd (upd H ax (.lst (rgV 0 d))) od (.lst [])) tt (.tup [.ref ax, .ref od])) od = some (.lst (([] : List Int).map V.int)) := by
    rw [upd_ne (Ne.symm ntt), upd_same]
    rfl
  have offa := hp.off hax
  have offo := hp.off hod1
  generalize upd (upd (upd H ax (.lst (rgV 0 d))) od (.lst [])) tt (.tup [.ref ax, .ref od]) = H1 at s1 ha1 ho1
  dsimp only
  refine go_seq ?_
  refine for_any (fun i σ' H' => ∃ (A O : List Int) (vl : Option V), σ' = [some (.ref p), some v, some (.int d), some (.ref ax), some (.ref od), vl, none, none, none, none, none, none] ∧ But p H H' ∧ Pen H' p cc (n + i) ∧
    H' ax = some (.lst (A.map V.int)) ∧ H' od = some (.lst (O.map V.int)) ∧ A.length + i = d ∧ O.length = i ∧ (∀ z ∈ A, 0 ≤ z ∧ z < (d : Int)) ∧ ∀ z ∈ O, 0 ≤ z ∧ z < (d : Int))
    (tells_rng (n := d) (fun Q' q' => ⟨_, rfl, q' _ (Same.refl _)⟩) (by omega)) ?_ (fun _ _ _ _ => trivial) ?_ ?_
  · intro H2 e2 _
    refine ⟨_, [], none, rfl, But.of (s1.trans e2), (hp.same s1).same e2, e2 _ _ ha1, e2 _ _ ho1, by simp, rfl, fun z hz => ?_, fun z hz => by cases hz⟩
    obtain ⟨q, hq, rfl⟩ := List.mem_map.mp hz
    have := List.mem_range.mp hq
    omega
  · rintro i x σ' H2 H3 lt ⟨A, O, vl, rfl, b2, p2, h2a, h2o, la, lo, ra, ro⟩ e3 rfl
    have b3 := b2.same e3
    have p3 := p2.same e3
    have h3a := e3 _ _ h2a
    have h3o := e3 _ _ h2o
    have lA : (A.map V.int).length = A.length := List.length_map _
    refine ⟨_, rfl, Or.inl ⟨rfl, _, SqL.of h3o⟩, _, rfl, Or.inl ⟨rfl, _, SqL.of h3a⟩, _, rfl, _, rfl, ax, _, rfl, Or.inl (SqL.of h3a), p, cc, n + i, _, rfl, p3, by omega, by omega, by omega, fun r H4 r0 r1 b4 p4 => ?_⟩
    have kd := p3.kd b4
    have h4a := kd _ _ rfl h3a
    have h4o := kd _ _ rfl h3o
    have r2 : r < A.length := by rw [lA] at r1; exact r1
    have hk : r.toNat < A.length := by omega
    refine ⟨ax, _, r, r.toNat, .int A[r.toNat], rfl, rfl, h4a, by omega, by omega, pop_ix r0 r1, by rw [List.getElem?_map, List.getElem?_eq_getElem hk]; rfl, ?_⟩
    refine ⟨od, _, _, rfl, rfl, by rw [upd_ne nod]; exact h4o, by rw [List.length_map, lo, sizeLine_eq]; omega, ?_⟩
    refine ⟨A.eraseIdx r.toNat, O ++ [A[r.toNat]], _, rfl, (((b3.trans b4).new hax).new hod1), ((p4.le (by omega)).upd offa).upd offo, ?_, ?_, ?_, by rw [List.length_append, lo]; rfl, fun z hz => ra z (List.mem_of_mem_eraseIdx hz), fun z hz => ?_⟩
    · rw [upd_ne (Ne.symm nod), upd_same, map_erase]
    · rw [upd_same, List.map_append]
      rfl
    · rw [List.length_eraseIdx_of_lt hk]
      omega
    · rcases List.mem_append.mp hz with hz | hz
      · exact ro z hz
      · rw [List.mem_singleton.mp hz]
        exact ra _ (List.getElem_mem hk)
  · rintro σ' H2 ⟨A, O, vla, rfl, b2, p2, h2a, h2o, la, lo, ra, ro⟩
    have lO : (O.map V.int).length = d := by rw [List.length_map, lo]
    dsimp only
    refine go_seq ?_
    refine go_asgN ?_
    refine lc_pen (p := p) (c := cc) (N := n + d) (n := (O.map V.int).length) (fun z => z = 1 ∨ z = -1) (by rw [lO]; omega) (tells_at (a := od) (xs := O.map V.int) (fun Q' q' => ⟨_, rfl, q' _ (Same.refl _)⟩) h2o) kd_at p2 (fun x => rfl) ?_ ?_
    · intro i x H3 lt b3 p3 _ Q' q'
      rw [lO] at lt
      refine ⟨_, rfl, _, rfl, (by show 2 ≤ sizeLine; decide), fun q hq => ⟨p, cc, q, n + d + i, _, rfl, p3.same (sameNew hq), by omega, Or.inl upd_same, (by show 0 < 2; decide), (by show 2 ≤ 1000000; decide), fun y H4 hy b4 p4 => ?_⟩⟩
      have b5 := (But.of (sameNew hq)).trans b4
      simp only [List.mem_cons, List.not_mem_nil, or_false] at hy
      rcases hy with rfl | rfl
      · exact q' 1 H4 (.inl rfl) b5 p4
      · exact q' (-1) H4 (.inr rfl) b5 p4
    intro sg H3 sgs hsg b3 p3 h3s lsg rsg
    rw [lO] at p3 lsg
    have b3' := b2.trans b3
    have h3o := p2.kd b3 _ _ rfl h2o
    dsimp only
    refine go_seq ?_
    refine go_asgN ?_
    refine lc_pen (p := p) (c := cc) (N := n + d + d) (n := (O.map V.int).length) (fun z => -45000 ≤ z ∧ z ≤ 45000) (by rw [lO]; omega) (tells_at (a := od) (xs := O.map V.int) (fun Q' q' => ⟨_, rfl, q' _ (Same.refl _)⟩) h3o) kd_at p3 (fun x => rfl) ?_ ?_
    · intro i x H4 lt b4 p4 _ Q' q'
      rw [lO] at lt
      refine ⟨_, rfl, _, rfl, (by show 5 ≤ sizeLine; decide), fun q hq => ⟨p, cc, q, n + d + d + i, _, rfl, p4.same (sameNew hq), by omega, Or.inl upd_same, (by show 0 < 5; decide), (by show 5 ≤ 1000000; decide), fun y H5 hy b5 p5 => ?_⟩⟩
      have b6 := (But.of (sameNew hq)).trans b5
      simp only [List.mem_cons, List.not_mem_nil, or_false] at hy
      rcases hy with rfl | rfl | rfl | rfl | rfl
      · exact q' 0 H5 (by decide) b6 p5
      · exact q' 0 H5 (by decide) b6 p5
      · exact q' 5 H5 (by decide) b6 p5
      · exact q' (-7) H5 (by decide) b6 p5
      · exact q' 45000 H5 (by decide) b6 p5
    intro by_ H4 bys hby b4 p4 h4b lby rby
    rw [lO] at p4 lby
    have kd4 := p3.kd b4
    have h4o := kd4 _ _ rfl h3o
    have h4s := kd4 _ _ rfl h3s
    have b4' := b3'.trans b4
    have cS := hS.mono (hp.kd b4')
    dsimp only
    refine go_seq ?_
    refine go_asgN ?_
    refine go_lst0 fun fd hfd => ?_
    dsimp only
    refine go_seq ?_
    have hfd0 := p4.free b4' hfd
    have offf := p4.off hfd
    obtain ⟨va, vs, rfl, hva, hvs⟩ := cS.lst_ref
    have lvs := hvs.length
    rw [List.length_map] at lvs
    refine ⟨_, rfl, va, rfl, ⟨vs, SqL.of ((sameNew hfd) _ _ hva)⟩, for_list (K := K) (a := va) (xs := vs) (fun i σ' H' => ∃ (S' : List (List Int)) (fvs : List V) (vl : Option V), σ' = [some (.ref p), some (.ref va), some (.int d), some (.ref ax), some (.ref od), vla, some (.ref sg), some (.ref by_), some (.ref fd), vl, none, none] ∧
      Same H4 H' ∧ H' fd = some (.lst fvs) ∧ DtAll H' fvs (S'.map ceD) ∧ S'.length = i ∧ ∀ x ∈ S', x.length = d ∧ Near (m + 45000) x) ?_ ?_ ?_ ?_⟩
    · exact ⟨[], [], _, rfl, sameNew hfd, upd_same, .nil, rfl, fun x hx => by cases hx⟩
    · rintro i σ' H' _ ⟨S', fvs, vl, rfl, c1, c2, c3, c4, c5⟩
      exact SqL.of (c1 _ _ hva)
    · rintro i y σ' H' hi ⟨S', fvs, vl, rfl, c1, c2, c3, c4, c5⟩
      obtain ⟨dc, hdc, hyc⟩ := (hvs.same c1).at hi
      rw [List.getElem?_map] at hdc
      obtain ⟨c, hc, rfl⟩ := Option.map_eq_some_iff.mp hdc
      obtain ⟨t, rfl, ht⟩ := hyc.cell
      obtain ⟨lc, nc⟩ := near c (List.mem_of_getElem? hc)
      have lf := c3.length
      rw [List.length_map] at lf
      have li := (List.getElem?_eq_some_iff.mp hi).1
      refine go_drop ?_
      refine ⟨_, rfl, Or.inl ⟨rfl, _, SqL.of c2⟩, ?_⟩
      refine go_arg1 (go_cb1 ?_)
      refine lc_any (b := fun _ => true) (f := fun j => .int (sgs.getD j 0 * c.getD (O.getD j 0).toNat 0 + bys.getD j 0)) (n := d) (by omega) (tells_rng (n := d) (fun Q' q' => ⟨_, rfl, q' _ (Same.refl _)⟩) (by omega)) (fun _ _ _ _ => trivial) ?_ ?_
      · rintro j x H5 ltj e5 rfl
        refine goTo_name ⟨rfl, Same.refl _, et_yes, fun _ => ⟨?_, rfl⟩⟩
        intro H6 e6 Q' q'
        have es : sgs[j]? = some (sgs.getD j 0) := by rw [List.getD_eq_getElem?_getD, List.getElem?_eq_getElem (by omega)]; rfl
        have eb : bys[j]? = some (bys.getD j 0) := by rw [List.getD_eq_getElem?_getD, List.getElem?_eq_getElem (by omega)]; rfl
        have eo : O[j]? = some (O.getD j 0) := by rw [List.getD_eq_getElem?_getD, List.getElem?_eq_getElem (by omega)]; rfl
        have ob := ro _ (List.mem_of_getElem? eo)
        obtain ⟨q, hq⟩ : ∃ q : Nat, O.getD j 0 = (q : Int) := ⟨(O.getD j 0).toNat, by omega⟩
        have ec : c[q]? = some (c.getD (O.getD j 0).toNat 0) := by rw [hq, List.getD_eq_getElem?_getD, show ((q : Int)).toNat = q from rfl, List.getElem?_eq_getElem (by omega)]; rfl
        have sb := rsg _ (List.mem_of_getElem? es)
        have em : ∀ {L : List Int} {k : Nat} {z : Int}, L[k]? = some z → (L.map V.int)[k]? = some (V.int z) := fun h => by rw [List.getElem?_map, h]; rfl
        have sm := (c1.trans e5).trans e6
        refine ⟨_, rfl, _, rfl, sg, _, (j : Int), _, rfl, rfl, SqL.of (sm _ _ h4s), atI_nat (em es), _, rfl, _, rfl, _, rfl, od, _, (j : Int), _, rfl, rfl, SqL.of (sm _ _ h4o), atI_nat (em eo), ?_⟩
        refine ⟨t, c.map V.int, O.getD j 0, V.int (c.getD (O.getD j 0).toNat 0), rfl, rfl, SqT.of (e6 _ _ (e5 _ _ ht)), by rw [hq]; rw [hq] at ec; exact atI_nat (em ec), _, _, rfl, rfl, Or.inl (by rcases sb with h | h <;> rw [h] <;> decide), ?_⟩
        exact ⟨_, rfl, _, rfl, by_, _, (j : Int), _, rfl, rfl, SqL.of (sm _ _ h4b), atI_nat (em eb), _, _, rfl, rfl, q' _ _ (Same.refl _) (.int _)⟩
      · intro D H5 ys hD e5 hD5 hys
        rw [told_all, show (fun j => PyData.int (sgs.getD j 0 * c.getD (O.getD j 0).toNat 0 + bys.getD j 0)) = PyData.int ∘ (fun j => sgs.getD j 0 * c.getD (O.getD j 0).toNat 0 + bys.getD j 0) from rfl, ← List.map_map] at hys
        have nn : ∀ z ∈ (List.range d).map (fun j => sgs.getD j 0 * c.getD (O.getD j 0).toNat 0 + bys.getD j 0), -(m + 45000) ≤ z ∧ z ≤ m + 45000 := fun z hz => by
          obtain ⟨j, hj, rfl⟩ := List.mem_map.mp hz
          have ltj := List.mem_range.mp hj
          have es : sgs[j]? = some (sgs.getD j 0) := by rw [List.getD_eq_getElem?_getD, List.getElem?_eq_getElem (by omega)]; rfl
          have eb : bys[j]? = some (bys.getD j 0) := by rw [List.getD_eq_getElem?_getD, List.getElem?_eq_getElem (by omega)]; rfl
          have eo : O[j]? = some (O.getD j 0) := by rw [List.getD_eq_getElem?_getD, List.getElem?_eq_getElem (by omega)]; rfl
          have ob := ro _ (List.mem_of_getElem? eo)
          have ec : ∀ k, k < c.length → c[k]? = some (c.getD k 0) := fun k hk => by rw [List.getD_eq_getElem?_getD, List.getElem?_eq_getElem hk]; rfl
          have ec := ec (O.getD j 0).toNat (by omega)
          have b1 := rsg _ (List.mem_of_getElem? es)
          have b2 := rby _ (List.mem_of_getElem? eb)
          have b3 := nc _ (List.mem_of_getElem? ec)
          rcases b1 with h | h <;> rw [h] <;> omega
        have ln : ((List.range d).map (fun j => sgs.getD j 0 * c.getD (O.getD j 0).toNat 0 + bys.getD j 0)).length = d := by rw [List.length_map, List.length_range]
        generalize (List.range d).map (fun j => sgs.getD j 0 * c.getD (O.getD j 0).toNat 0 + bys.getD j 0) = nz at hys nn ln
        refine ⟨D, ys, rfl, Or.inl ⟨SqL.of hD5, fun l hl => ?_⟩⟩
        have e6 := e5.trans (sameNew (o := HO.tup ys) hl)
        have hl5 : Dt (upd H5 l (.tup ys)) (.ref l) (ceD nz) := .tup upd_same (hys.same (sameNew hl))
        generalize upd H5 l (.tup ys) = H6 at e6 hl5
        have k6 : Tk H6 (upd H6 fd (.lst (fvs ++ [V.ref l]))) := tk_l (e6 _ _ c2)
        refine ⟨fd, fvs, _, rfl, rfl, e6 _ _ c2, by rw [lf, c4, sizeLine_eq]; omega, S' ++ [nz], _, _, rfl, same_mut (c1.trans e6) hfd, upd_same, ?_, by rw [List.length_append, c4]; rfl, fun x hx => ?_⟩
        · rw [List.map_append]
          exact (cells_tk k6 (c3.same e6)).append (.cons (cell_tk k6 hl5) .nil)
        · rcases List.mem_append.mp hx with hx | hx
          · exact c5 x hx
          · rw [List.mem_singleton.mp hx]
            exact ⟨ln, nn⟩
    · rintro σ' H' ⟨S', fvs, vl, rfl, c1, c2, c3, c4, c5⟩
      exact ⟨_, rfl, k fd S' H' hfd0 (b4'.same c1) ((p4.same c1).le (by omega)) (.lst c2 c3) (by rw [c4, lvs]) c5⟩
end
end K01

namespace K01
open PySem PySem.Spec
open PyProof.Rows hiding St
open L2 Cl
abbrev s_law_odd : Stmt := top 29
theorem sc_law_odd : FnScope ["pen", "cell", "some"] ["pen", "cell"] (defScope s_law_odd) := ⟨rfl, rfl, rfl, by decide +kernel, rfl, by decide +kernel, by decide +kernel⟩
section
variable {P : Program} {w : World} {K : PySem.W.Frag} {mg : Str → Option Value} {base : Heap}
theorem cut_m1 (ds : List PyData) (h : 1 ≤ ds.length) : Cl.cutD ds none (some (-1)) = ds.take (ds.length - 1) := by
  unfold Cl.cutD
  rw [HT.sIx_none, List.drop_zero, Nat.sub_zero]
  have : HT.sIx ds.length ds.length (some (-1)) = ds.length - 1 := by
    unfold HT.sIx
    simp
    omega
  rw [this]
/-- arguments that evaluate to data -/
def EdA (ta : TA) (σ : St) (H : Hp) (ds : List PyData) : Prop := ∀ H1, Same H H1 → ∀ Q : List V → Hp → Prop, (∀ vs H2, Same H1 H2 → DtAll H2 vs ds → Q vs H2) → ta σ H1 Q
section
variable {σ : St} {H : Hp} {Q : VK} {v : V} {ds es : List PyData} {d d0 : PyData} {te tf : TE} {ta : TA}
theorem eda_nil : EdA tNil σ H [] := fun H1 _ Q q => q [] H1 (Same.refl _) .nil
theorem eda_cons (h : Ed te σ H (isD d)) (t : EdA ta σ H ds) : EdA (tCons te ta) σ H (d :: ds) := fun H1 e1 Q q => h H1 e1 _ fun v H2 e2 hv => t H2 (e1.trans e2) _ fun vs H3 e3 hvs => q _ H3 (e2.trans e3) (.cons (hv.same e3) hvs)
theorem ed_tup (h : EdA ta σ H ds) (l : ds.length ≤ 1000) : Ed (tTup ta) σ H (isD (.tuple ds)) := fun H1 e1 Q q => h H1 e1 _ fun vs H2 e2 hvs => ⟨by rw [hvs.length, sizeLine_eq]; omega, fun p hp => q _ _ (e2.trans (sameNew hp)) (dt_tup hvs hp)⟩
theorem ed_lst (h : EdA ta σ H ds) (l : ds.length ≤ 1000) : Ed (tLst ta) σ H (isD (.list ds)) := fun H1 e1 Q q => h H1 e1 _ fun vs H2 e2 hvs => ⟨by rw [hvs.length, sizeLine_eq]; omega, fun p hp => q _ _ (e2.trans (sameNew hp)) (dt_lst hvs hp)⟩
theorem ed_cat (h : Ed te σ H (isD (.list ds))) (g : Ed tf σ H (isD (.list es))) (l : ds.length + es.length ≤ 1000) : Ed (tOp rCat te tf) σ H (isD (.list (ds ++ es))) := fun H1 e1 Q q =>
  h H1 e1 _ fun v H2 e2 hv => g H2 (e1.trans e2) _ fun u H3 e3 hu => cat_dt (hv.same e3) hu (by omega) fun p H4 _ e4 h4 => q _ _ ((e2.trans e3).trans e4) h4
theorem ed_catT (h : Ed te σ H (isD (.tuple ds))) (g : Ed tf σ H (isD (.tuple es))) (l : ds.length + es.length ≤ 1000) : Ed (tOp (rCatA K) te tf) σ H (isD (.tuple (ds ++ es))) := fun H1 e1 Q q =>
  h H1 e1 _ fun v H2 e2 hv => g H2 (e1.trans e2) _ fun u H3 e3 hu => catT_dt (hv.same e3) hu (by omega) fun p H4 e4 h4 => q _ _ ((e2.trans e3).trans e4) h4
theorem ed_cut (h : σ[1]? = some (some v)) (hx : Dt H v (.tuple ds)) (h1 : 1 ≤ ds.length) : Ed (tSl (rSlA K) (tVar 1) tNoPart (tPart (tUn (rU fun i => V.int (-i)) (tC (V.int 1))))) σ H (isD (.tuple (ds.take (ds.length - 1)))) :=
  fun H1 e1 Q q => ⟨v, h, 1, rfl, -1, rfl, slT_dt (hx.same e1) fun u H' e hu => q u H' e (by rwa [cut_m1 ds h1] at hu)⟩
theorem ed_listT (h : σ[1]? = some (some v)) (hx : Dt H v (.tuple ds)) : Ed (tCB (rListQ K) (tCons (tVar 1) tNil)) σ H (isD (.list ds)) :=
  fun H1 e1 Q q => ⟨v, h, listT_dt (hx.same e1) fun u H' _ e hu => q _ H' e hu⟩
theorem ed_c {v : V} {d : PyData} (h : ∀ H', Dt H' v d) : Ed (tC v) σ H (isD d) := fun H1 _ Q q => q v H1 (Same.refl _) (h H1)
theorem ed_edc : Ed tDNewK σ H (isD (.dict [])) := fun H1 e1 Q q p hp => q _ _ (sameNew hp) (.edc upd_same)
end
/-- what is no cell of c's dimension -/
def oddL (c : List Int) : List PyData := [.none, .int 3, .str "00", .list (c.map .int), .tuple ((c.map PyData.int).take ((c.map PyData.int).length - 1)), .tuple (c.map PyData.int ++ [.int 0]),
  .tuple ((c.map PyData.int).take ((c.map PyData.int).length - 1) ++ [.bool true]), .tuple ((c.map PyData.int).take ((c.map PyData.int).length - 1) ++ [.str "0"])] ++
  [.tuple ((c.map PyData.int).take ((c.map PyData.int).length - 1) ++ [.none]), .tuple ((c.map PyData.int).take ((c.map PyData.int).length - 1) ++ [.tuple [.int 0]])] ++
  [.tuple [], .tuple [.int 0], .tuple [.int 0, .int 0, .int 0, .int 0, .int 0], .tuple [ceD c, ceD c], .dict []]
def spOdd : Sp := fun vs H Q _ => ∃ (p cc : Addr) (n : Nat) (v : V) (c : List Int), vs = [.ref p, v] ∧ Pen H p cc n ∧ n + 100 < penMax ∧ Dt H v (ceD c) ∧ Dm c.length ∧
  ∀ (u : V) (d : PyData) (H' : Hp), But p H H' → Pen H' p cc (n + 1) → Dt H' u d → d ∈ oddL c → Q u H'
theorem ok_law_odd (T : Tx K mg) (F : Cl.Top K mg "_law_odd" s_law_odd ["pen", "cell"]) (D_law_pick : Def P w K mg base "_law_pick" 2 ["pen", "some"] spPick) :
   Def P w K mg base "_law_odd" 3 ["pen", "cell"] spOdd := by
  refine Def.of F sc_law_odd (fun h => ?_) fun f cd A fr s H vs Q E hr hgd h => ?_
  · obtain ⟨p, cc, n, v, c, rfl, _⟩ := h
    rfl
  obtain ⟨p, cc, n, v, c, rfl, hp, hn, hc, hd, k⟩ := h
  have ln : (c.map PyData.int).length = c.length := List.length_map _
  have l1 : 1 ≤ (c.map PyData.int).length := by rw [ln]; rcases hd with h | h | h <;> rw [h] <;> decide
  have l2 : (c.map PyData.int).length ≤ 1000 := by rw [ln]; rcases hd with h | h | h <;> rw [h] <;> decide
  refine ⟨_, (pss_cons (ps_set (i := 2) sc_law_odd.nd rfl (Or.inl rfl) (pe_lst (pa_cons pe_non (pa_cons pe_int (pa_cons pe_str (pa_cons (pe_callTy (kList K) (by rfl) T.n_list bt_list (pa_cons (pv 1) pa_nil)) (pa_cons (pe_slice (kSlT K) (pv 1) po_none (po_some (pe_un un_neg pe_int))) (pa_cons (pe_op (kCatT K) (pv 1) (pe_tup (pa_cons pe_int pa_nil))) (pa_cons (pe_op (kCatT K) (pe_slice (kSlT K) (pv 1) po_none (po_some (pe_un un_neg pe_int))) (pe_tup (pa_cons pe_bl pa_nil))) (pa_cons (pe_op (kCatT K) (pe_slice (kSlT K) (pv 1) po_none (po_some (pe_un un_neg pe_int))) (pe_tup (pa_cons pe_str pa_nil))) pa_nil))))))))))
      (pss_cons (ps_set (i := 2) sc_law_odd.nd rfl (Or.inl rfl) (pe_op op_cat (pv 2) (pe_lst (pa_cons (pe_op (kCatT K) (pe_slice (kSlT K) (pv 1) po_none (po_some (pe_un un_neg pe_int))) (pe_tup (pa_cons pe_non pa_nil))) (pa_cons (pe_op (kCatT K) (pe_slice (kSlT K) (pv 1) po_none (po_some (pe_un un_neg pe_int))) (pe_tup (pa_cons (pe_tup (pa_cons pe_int pa_nil)) pa_nil))) pa_nil)))))
      (pss_one (ps_ret (pe_d D_law_pick (hr.mono (by decide)) hgd (by rfl) passNo (pa_cons (pv 0) (pa_cons (pe_op op_cat (pv 2) (pe_lst (pa_cons (pe_tup pa_nil) (pa_cons (pe_tup (pa_cons pe_int pa_nil)) (pa_cons (pe_tup (pa_cons pe_int (pa_cons pe_int (pa_cons pe_int (pa_cons pe_int (pa_cons pe_int pa_nil)))))) (pa_cons (pe_tup (pa_cons (pv 1) (pa_cons (pv 1) pa_nil))) (pa_cons pe_dnewK pa_nil))))))) pa_nil))))))), ?_⟩
  have eC : ∀ {σ : St} {H' : Hp}, σ[1]? = some (some v) → Same H H' → Ed (tVar 1) σ H' (isD (ceD c)) := fun h e => ed_var h (hc.same e)
  have ct := List.length_take_le ((c.map PyData.int).length - 1) (c.map PyData.int)
  have zer : ∀ {σ : St} {H' : Hp}, Ed (tC (V.int 0)) σ H' (isD (.int 0)) := ed_c fun _ => .int 0
  have one : ∀ {σ : St} {H' : Hp} {te : TE} {d : PyData}, Ed te σ H' (isD d) → Ed (tTup (tCons te tNil)) σ H' (isD (.tuple [d])) := fun h => ed_tup (eda_cons h eda_nil) (by show 1 ≤ 1000; decide)
  have cc1 : ∀ {σ : St} {H' : Hp} {te : TE} {d : PyData}, σ[1]? = some (some v) → Same H H' → Ed te σ H' (isD d) →
      Ed (tOp (rCatA K) (tSl (rSlA K) (tVar 1) tNoPart (tPart (tUn (rU fun i => V.int (-i)) (tC (V.int 1))))) (tTup (tCons te tNil))) σ H' (isD (.tuple ((c.map PyData.int).take ((c.map PyData.int).length - 1) ++ [d]))) :=
    fun h e t => ed_catT (ed_cut h (hc.same e) l1) (one t) (by show _ + 1 ≤ 1000; rw [List.length_take]; rcases hd with h | h | h <;> rw [ln, h] <;> decide)
  refine go_seq (go_asgN (ed_lst (eda_cons (ed_c fun _ => .non) (eda_cons (ed_c fun _ => .int 3) (eda_cons (ed_c fun _ => .str "00") (eda_cons (ed_listT rfl hc) (eda_cons (ed_cut rfl hc l1)
    (eda_cons (ed_catT (eC rfl (Same.refl _)) (one zer) (by show _ + 1 ≤ 1000; rcases hd with h | h | h <;> rw [ln, h] <;> decide)) (eda_cons (cc1 rfl (Same.refl _) (ed_c fun _ => .bl true)) (eda_cons (cc1 rfl (Same.refl _) (ed_c fun _ => .str "0")) eda_nil)))))))) (by show 8 ≤ 1000; decide)
    H (Same.refl _) _ fun u1 H1 e1 h1 => ?_))
  dsimp only
  refine go_seq (go_asgN (ed_cat (ed_var rfl h1) (ed_lst (eda_cons (cc1 rfl e1 (ed_c fun _ => .non)) (eda_cons (cc1 rfl e1 (one zer)) eda_nil)) (by show 2 ≤ 1000; decide)) (by show 8 + 2 ≤ 1000; decide)
    H1 (Same.refl _) _ fun u2 H2 e2 h2 => ?_))
  dsimp only
  have e12 := e1.trans e2
  refine go_ret ⟨_, rfl, ?_⟩
  refine ed_cat (ed_var rfl h2) (ed_lst (eda_cons (ed_tup eda_nil (by show 0 ≤ 1000; decide)) (eda_cons (one zer) (eda_cons (ed_tup (eda_cons zer (eda_cons zer (eda_cons zer (eda_cons zer (eda_cons zer eda_nil))))) (by show 5 ≤ 1000; decide))
    (eda_cons (ed_tup (eda_cons (eC rfl e12) (eda_cons (eC rfl e12) eda_nil)) (by show 2 ≤ 1000; decide)) (eda_cons ed_edc eda_nil))))) (by show 5 ≤ 1000; decide)) (by show 10 + 5 ≤ 1000; decide)
    H2 (Same.refl _) _ fun u3 H3 e3 h3 => ?_
  obtain ⟨a, xs, rfl, ha, hxs⟩ := h3.lst_ref
  have lx := hxs.length
  have e13 := e12.trans e3
  refine ⟨p, cc, a, n, xs, rfl, hp.same e13, by omega, Or.inl ha, by rw [lx]; show 0 < 15; decide, by rw [lx]; show 15 ≤ 1000000; decide, fun y H4 hy b4 p4 => ?_⟩
  obtain ⟨d, hd, hyd⟩ := mem_dt hxs hy
  exact k y d H4 ((But.of e13).trans b4) p4 (hyd.mono ((hp.same e13).kd b4)) hd
end
end K01

namespace K01
open PySem PySem.Spec
open PyProof.Rows hiding St
open L2 Cl
abbrev s_law_refused : Stmt := top 31
theorem sc_law_refused : FnScope ["call", "e"] ["call"] (defScope s_law_refused) := ⟨rfl, rfl, rfl, by decide +kernel, rfl, by decide +kernel, by decide +kernel⟩
section
variable {P : Program} {w : World} {K : PySem.W.Frag} {mg : Str → Option Value} {base : Heap}
/-- what is told of a refused call -/
def refE (K : PySem.W.Frag) (Q : VK) : XK := fun cls d H => (cls = .ref (He.ga K "BadCell") ∧ ∃ (dd : Addr) (v : V) (e : PyData), d = some dd ∧ H dd = some (.xd [("cell", v)]) ∧ Dt H v e ∧ Tells e ∧
    ∀ r H', Same H H' → Dt H' r (.tuple [.str "cell", .str e.shown]) → Q r H') ∨
  (cls = .ref (He.ga K "BadNumber") ∧ ∃ (dd : Addr) (v : V) (e : PyData), d = some dd ∧ H dd = some (.xd [("number", v), ("what", .str "dimension")]) ∧ Dt H v e ∧ Tells e ∧
    ∀ r H', Same H H' → Dt H' r (.tuple [.str "number", .str "dimension", .str e.shown]) → Q r H')
def refT (K : PySem.W.Frag) (tl : XK → Hp → VK → Prop) (H : Hp) (Q : VK) : Prop := ∀ (E : XK) (Q' : VK), (∀ cls d H', refE K Q cls d H' → E cls d H') → (∀ v H', Q .non H' → Q' v H') → tl E H Q'
theorem gives_refused (X : Cx) {g : Addr} {cdg : Value} {q : Str} {k : Nat} (T : Tx X.K X.mg) : GivesG X ["call", "e"] "_law_refused" (defScope s_law_refused) g cdg (defBody s_law_refused) "call" q k (refT X.K) := by
  intro f c' s H Q tl hr hgd act hco hT
  refine ⟨_, (pss_cons (ps_tryAs (Wo := fun _ _ _ _ => False) rfl rfl takesNo (fun W pn xe tk _ => pss_one (ps_expr (act W pn xe _ _ tk))) (Clauses.cons (i := 1) ⟨by rfl, by decide, .inl T.g_BadCell⟩ sc_law_refused.nd (by rfl) (by rfl) (fun a oe cls d pn hz hf => pss_one (ps_ret (pe_tup (pa_cons pe_str (pa_cons (pe_callB (call_repr hgd hr.units) (by rfl) T.n_repr bt_repr (pa_cons (pe_xf (EC.xf T.ec_BadCell) T.no_BadCell_cell hz hf (pv 1)) pa_nil)) pa_nil)))))
    (Clauses.cons (i := 1) ⟨by rfl, by decide, .inl T.g_BadNumber⟩ sc_law_refused.nd (by rfl) (by rfl) (fun a oe cls d pn hz hf => pss_one (ps_ret (pe_tup (pa_cons pe_str (pa_cons (pe_xf (EC.xf T.ec_BadNumber) T.no_BadNumber_what hz hf (pv 1)) (pa_cons (pe_callB (call_repr hgd hr.units) (by rfl) T.n_repr bt_repr (pa_cons (pe_xf (EC.xf T.ec_BadNumber) T.no_BadNumber_number hz hf (pv 1)) pa_nil)) pa_nil)))))) Clauses.nil)))
    (pss_one (ps_ret pe_non))), ?_⟩
  refine ⟨rfl, hco, hT _ _ (fun cls d H1 h => ?_) fun v H1 h => h⟩
  rcases h with ⟨rfl, dd, v, e, rfl, hx, hv, te, k⟩ | ⟨rfl, dd, v, e, rfl, hx, hv, te, k⟩
  · refine ⟨true, T.x_cc, fun _ a ha => ?_, fun z => by cases z⟩
    refine ⟨_, rfl, rfl, rfl, dd, _, v, rfl, hx, rfl, v, e, rfl, hv, te, (by show 2 ≤ sizeLine; decide), fun r hr => ?_⟩
    exact k _ _ (sameNew hr) (dt_tup (.cons (.str _) (.cons (.str _) .nil)) hr)
  · refine ⟨false, T.x_nc, fun z => (by cases z), fun _ => ⟨true, T.x_nn, fun _ a ha => ?_, fun z => by cases z⟩⟩
    refine ⟨_, rfl, rfl, rfl, dd, _, _, rfl, hx, rfl, _, rfl, rfl, rfl, dd, _, v, rfl, hx, rfl, v, e, rfl, hv, te, (by show 3 ≤ sizeLine; decide), fun r hr => ?_⟩
    exact k _ _ (sameNew hr) (dt_tup (.cons (.str _) (.cons (.str _) (.cons (.str _) .nil))) hr)
end
end K01

namespace K01
open PySem PySem.Spec
open PyProof.Rows hiding St
open L2 Cl
abbrev s_law_lot : Stmt := top 32
theorem sc_law_lot : FnScope ["pen", "dimension", "found", "lap", "by", "order", "k", "cell"] ["pen", "dimension"] (defScope s_law_lot) := ⟨rfl, rfl, rfl, by decide +kernel, rfl, by decide +kernel, by decide +kernel⟩
section
variable {P : Program} {w : World} {K : PySem.W.Frag} {mg : Str → Option Value} {base : Heap}
theorem go_forR {ta : TA} {g : TG} {tb : TS} {D : Ends} {σ : St} {H : Hp} (h : ta σ H fun xs H1 => tFor (iRng1 fun _ H2 Q => Q xs H2) g tb D σ H1) : tFor (iRng1 ta) g tb D σ H := h
theorem tells_rngV {xs : List V} {n : Nat} {σ : St} {H : Hp} (e : xs = [.int (n : Int)]) (hn : n ≤ 100000) : Tells1 (iRng1 fun _ H2 Q => Q xs H2) σ H n (fun i v _ => v = .int (i : Int)) fun _ => True :=
  tells_rng (fun Q' q' => by rw [e]; exact q' _ (Same.refl _)) hn
theorem dta_erase {H : Hp} : ∀ {ds : List PyData} {vs : List V} (k : Nat), DtAll H vs ds → DtAll H (vs.eraseIdx k) (ds.eraseIdx k)
  | [], _, k, h => by cases h; exact .nil
  | d :: ds, _, 0, h => by cases h with | cons a b => exact b
  | d :: ds, _, k + 1, h => by cases h with | cons a b => exact .cons a (dta_erase k b)
/-- cells in some parts, some twice -/
def spLot : Sp := fun vs H Q _ => ∃ (p cc : Addr) (n d : Nat), vs = [.ref p, .int d] ∧ Pen H p cc n ∧ n + 1000 < penMax ∧ Dm d ∧
  ∀ (a : Addr) (S : List (List Int)) (H' : Hp), H a = none → But p H H' → Pen H' p cc (n + 200) → Dt H' (.ref a) (.list (S.map ceD)) → 0 < S.length → S.length ≤ 30 → (∀ x ∈ S, x.length = d ∧ Near 45010 x) → Q (.ref a) H'
theorem ok_law_lot (T : Tx K mg) (F : Cl.Top K mg "_law_lot" s_law_lot ["pen", "dimension"]) (D_law_draw : Def P w K mg base "_law_draw" 1 ["pen", "many"] spDraw) (D_law_pick : Def P w K mg base "_law_pick" 2 ["pen", "some"] spPick)
   (D_law_plus : Def P w K mg base "_law_plus" 1 ["one", "two"] (spAdded K)) (D_law_grown : Def P w K mg base "_law_grown" 3 ["pen", "dimension", "many"] spGrown) (D_law_turned : Def P w K mg base "_law_turned" 3 ["pen", "cells"] spTurned) :
   Def P w K mg base "_law_lot" 4 ["pen", "dimension"] spLot := by
  refine Def.of F sc_law_lot (fun h => ?_) fun f cd A fr s H vs Q E hr hgd h => ?_
  · obtain ⟨p, cc, n, d, rfl, _⟩ := h
    rfl
  obtain ⟨p, cc, n, d, rfl, hp, hn, hd, k⟩ := h
  have d4 : d ≤ 4 := by rcases hd with h | h | h <;> rw [h] <;> decide
  refine ⟨_, (pss_cons (ps_set (i := 2) sc_law_lot.nd rfl (Or.inl rfl) (pe_lst pa_nil))
      (pss_cons (ps_for (passes_of rfl) rfl (pi_range1 (by rfl) T.n_range (pa_cons (pe_op op_add pe_int (pe_d D_law_draw (hr.mono (by decide)) hgd (by rfl) passNo (pa_cons (pv 0) (pa_cons pe_int pa_nil)))) pa_nil)) (pg_name (i := 3) sc_law_lot.nd rfl (Or.inl rfl))
      (pss_cons (ps_set (i := 4) sc_law_lot.nd rfl (Or.inr rfl) (pe_callTy (kTuple K) (by rfl) T.n_tuple bt_tuple (pa_cons (pe_lc (own := [("k", 6)]) (g := (gName 6)) (tt := tYes) (by rfl) sc_law_lot.nd (pi_range1 (by rfl) T.n_range (pa_cons (pv 1) pa_nil)) (blkOk_by (own := [("k", 6)]) (N := ["pen", "dimension", "found", "lap", "by", "order", "k", "cell"]) (sc := defScope s_law_lot) (by decide +kernel)) (fun _ _ _ _ _ => (pg_name (i := 6) sc_law_lot.nd rfl (Or.inl rfl))) (fun _ _ _ _ _ => pts_nil) (fun _ _ _ _ _ => (pe_op op_sub (pe_d D_law_draw (hr.mono (by decide)) hgd (by rfl) passNo (pa_cons (pv 0) (pa_cons pe_int pa_nil))) pe_int))) pa_nil)))
      (pss_one (ps_set (i := 2) sc_law_lot.nd rfl (Or.inl rfl) (pe_op op_cat (pv 2) (pe_lc (own := [("cell", 7)]) (g := (gName 7)) (tt := tYes) (by rfl) sc_law_lot.nd (kPiL K (pe_d D_law_grown (hr.mono (by decide)) hgd (by rfl) passNo (pa_cons (pv 0) (pa_cons (pv 1) (pa_cons (pe_op op_add pe_int (pe_d D_law_draw (hr.mono (by decide)) hgd (by rfl) passNo (pa_cons (pv 0) (pa_cons pe_int pa_nil)))) pa_nil))))) (blkOk_by (own := [("cell", 7)]) (N := ["pen", "dimension", "found", "lap", "by", "order", "k", "cell"]) (sc := defScope s_law_lot) (by decide +kernel)) (fun _ _ _ _ _ => (pg_name (i := 7) sc_law_lot.nd rfl (Or.inl rfl))) (fun _ _ _ _ _ => pts_nil) (fun _ _ _ _ _ => (pe_d D_law_plus (hr.mono (by decide)) hgd (by rfl) passNo (pa_cons (pv 7) (pa_cons (pv 4) pa_nil))))))))))
      (pss_cons (ps_for (passes_of rfl) rfl (pi_range1 (by rfl) T.n_range (pa_cons (pe_d D_law_draw (hr.mono (by decide)) hgd (by rfl) passNo (pa_cons (pv 0) (pa_cons pe_int pa_nil))) pa_nil)) (pg_name (i := 3) sc_law_lot.nd rfl (Or.inl rfl))
      (pss_one (ps_expr (pe_bm PySem.F.plainAttrs_list PySem.F.slot_list_append PySem.F.type_list_append mt_append (pv 2) (pa_cons (pe_d D_law_pick (hr.mono (by decide)) hgd (by rfl) passNo (pa_cons (pv 0) (pa_cons (pv 2) pa_nil))) pa_nil)))))
      (pss_cons (ps_set (i := 5) sc_law_lot.nd rfl (Or.inl rfl) (pe_lst pa_nil))
      (pss_cons (ps_for (passes_of rfl) rfl (pi_range1 (by rfl) T.n_range (pa_cons (pe_callB (kLen K) (by rfl) T.n_len bt_len (pa_cons (pv 2) pa_nil)) pa_nil)) (pg_name (i := 3) sc_law_lot.nd rfl (Or.inl rfl))
      (pss_one (ps_expr (pe_bm PySem.F.plainAttrs_list PySem.F.slot_list_append PySem.F.type_list_append mt_append (pv 5) (pa_cons (pe_bm PySem.F.plainAttrs_list PySem.F.slot_list_pop PySem.F.type_list_pop mt_popAt (pv 2) (pa_cons (pe_d D_law_draw (hr.mono (by decide)) hgd (by rfl) passNo (pa_cons (pv 0) (pa_cons (pe_callB (kLen K) (by rfl) T.n_len bt_len (pa_cons (pv 2) pa_nil)) pa_nil))) pa_nil)) pa_nil)))))
      (pss_one (ps_ret (pe_d D_law_turned (hr.mono (by decide)) hgd (by rfl) passNo (pa_cons (pv 0) (pa_cons (pv 5) pa_nil)))))))))), ?_⟩
  refine go_seq (go_asgN (go_lst0 fun a0 ha0 => ?_))
  have off0 := hp.off ha0
  have s1 := sameNew (o := HO.lst []) ha0
  have c1 : Dt (upd H a0 (.lst [])) (.ref a0) (.list (([] : List (List Int)).map ceD)) := .lst upd_same .nil
  generalize upd H a0 (.lst []) = H1 at s1 c1
  dsimp only
  refine go_seq (go_forR ?_)
  refine ⟨_, rfl, p, cc, n, 4, rfl, hp.same s1, by omega, by decide, by decide, fun r H2 r0 r1 b2 p2 => ⟨_, _, rfl, rfl, ?_⟩⟩
  obtain ⟨j, rfl⟩ : ∃ j : Nat, r = (j : Int) := ⟨r.toNat, by omega⟩
  have b2 := (But.of s1).trans b2
  refine for_any (n := 1 + j) (fun i σ' H' => ∃ (a : Addr) (S : List (List Int)) (vl vb : Option V), σ' = [some (.ref p), some (.int d), some (.ref a), vl, vb, none, none, none] ∧ H a = none ∧ Off a p cc ∧ But p H H' ∧ Pen H' p cc (n + 1 + 20 * i) ∧
    Dt H' (.ref a) (.list (S.map ceD)) ∧ i ≤ S.length ∧ S.length ≤ 6 * i ∧ ∀ x ∈ S, x.length = d ∧ Near 10 x) (tells_rngV (by rw [show ((1 + j : Nat) : Int) = 1 + (j : Int) from by omega]) (by omega)) ?_ (fun _ _ _ _ => trivial) ?_ ?_
  · intro H3 e3 _
    exact ⟨a0, [], none, none, rfl, ha0, off0, b2.same e3, (p2.same e3).le (by omega), (c1.mono ((hp.same s1).kd ‹_›)).same e3, Nat.le_refl _, Nat.zero_le _, fun x hx => by cases hx⟩
  · rintro i x σ' H3 H4 lt ⟨a, S, vl, vb, rfl, na, offa, b3, p3, c3, l0, l1, near⟩ e4 rfl
    have b4 := b3.same e4
    have p4 := p3.same e4
    have c4 := c3.same e4
    refine go_seq (go_asgN (go_cb1 ?_))
    refine lc_pen (p := p) (c := cc) (N := n + 1 + 20 * i) (n := d) (fun z => -4 ≤ z ∧ z ≤ 4) (by omega) (tells_rng (n := d) (fun Q' q' => ⟨_, rfl, q' _ (Same.refl _)⟩) (by omega)) (fun _ _ _ _ _ => trivial) p4 (fun x => rfl) ?_ ?_
    · intro i' x' H5 lt' b5 p5 _ Q' q'
      refine ⟨_, rfl, p, cc, n + 1 + 20 * i + i', 9, rfl, p5, by omega, by decide, by decide, fun r H6 r0 r1 b6 p6 => ⟨_, _, rfl, rfl, ?_⟩⟩
      exact q' (r - 4) H6 ⟨by omega, by omega⟩ b6 p6
    intro D H5 bys hD b5 p5 h5 lby rby
    have kd5 := p4.kd b5
    have c5 := c4.mono kd5
    refine ⟨D, _, rfl, Or.inl ⟨SqL.of h5, fun t ht => ?_⟩⟩
    have e6 := sameNew (o := HO.tup (bys.map V.int)) ht
    have t6 : (upd H5 t (.tup (bys.map V.int))) t = some (.tup (bys.map V.int)) := upd_same
    generalize upd H5 t (.tup (bys.map V.int)) = H6 at e6 t6
    have b6 := (b4.trans b5).same e6
    have p6 := p5.same e6
    have c6 := c5.same e6
    dsimp only
    refine go_asgN ?_
    refine go_op ?_
    refine ⟨_, rfl, ?_⟩
    refine go_lcL ?_
    refine ⟨_, rfl, _, rfl, _, rfl, p, cc, n + 1 + 20 * i + d, 6, rfl, p6, by omega, by decide, by decide, fun r H7 r0 r1 b7 p7 => ⟨_, _, rfl, rfl, ?_⟩⟩
    obtain ⟨q, rfl⟩ : ∃ q : Nat, r = (q : Int) := ⟨r.toNat, by omega⟩
    have kd7 := p6.kd b7
    have t7 := kd7 _ _ rfl t6
    have c7 := c6.mono kd7
    refine ⟨p, cc, n + 1 + 20 * i + d + 1, d, 1 + q, (by rw [show ((1 + q : Nat) : Int) = 1 + (q : Int) from by omega]), p7, by omega, hd, by omega, by omega, fun g Sg H8 ng b8 p8 h8 g0 g1 gn => ?_⟩
    have kd8 := p7.kd b8
    have t8 := kd8 _ _ rfl t7
    have c8 := c7.mono kd8
    have b8' := (b6.trans b7).trans b8
    obtain ⟨_, ys, eq, hys, hcy⟩ := h8.lst_ref
    cases eq
    have ly := hcy.length
    rw [List.length_map] at ly
    dsimp only
    refine lc_any (b := fun _ => true) (f := fun i => ceD (addv (Sg.getD i []) bys)) (n := ys.length) (by omega) (tells_lst (a := g) (xs := ys) fun Q' q' => q' _ (Same.refl _) (SqL.of hys)) stay_lst ?_ ?_
    · intro i' z H9 lt' e9 hz
      obtain ⟨d', hd', hz'⟩ := (hcy.same e9).at hz
      rw [List.getElem?_map] at hd'
      obtain ⟨cz, hcz, rfl⟩ := Option.map_eq_some_iff.mp hd'
      have ecz : Sg.getD i' [] = cz := by rw [List.getD_eq_getElem?_getD, hcz]; rfl
      rw [ecz]
      obtain ⟨tz, rfl, htz⟩ := hz'.cell
      have lz := (gn cz (List.mem_of_getElem? hcz)).1
      refine goTo_name ⟨rfl, Same.refl _, et_yes, fun _ => ⟨?_, pu_cell _⟩⟩
      intro H10 e10 Q' q'
      exact ⟨_, rfl, _, rfl, tz, t, cz, bys, rfl, SqT.of (e10 _ _ htz), SqT.of (e10 _ _ (e9 _ _ t8)), by omega, by omega, fun v H11 e11 h11 => q' v H11 e11 h11⟩
    · intro D2 H9 zs hD2 e9 hD9 hzs
      rw [told_all, ly, range_getD Sg [] fun c => ceD (addv c bys), show (fun c => ceD (addv c bys)) = ceD ∘ (fun c => addv c bys) from rfl, ← List.map_map] at hzs
      have p9 := p8.same e9
      have b9 := b8'.same e9
      refine cat_dt (c8.same e9) (.lst hD9 hzs) (by rw [List.length_map, List.length_map, List.length_map]; omega) fun a2 H10 hr e10 h10 => ?_
      rw [← List.map_append] at h10
      refine ⟨a2, S ++ Sg.map (fun c => addv c bys), _, _, rfl, p9.free b9 hr, p9.off hr, b9.same e10, (p9.same e10).le (by omega), h10, by rw [List.length_append, List.length_map]; omega, by rw [List.length_append, List.length_map]; omega, fun x hx => ?_⟩
      rcases List.mem_append.mp hx with hx | hx
      · exact near x hx
      · obtain ⟨c, hc, rfl⟩ := List.mem_map.mp hx
        obtain ⟨lc, nc⟩ := gn c hc
        exact ⟨(addv_len (by omega)).trans lc, (nc.addv (n := 4) fun z hz => rby z hz)⟩
  · rintro σ' H3 ⟨a, S, vl, vb, rfl, na, offa, b3, p3, c3, l0, l1, near⟩
    have l1 : S.length ≤ 24 := by omega
    have l0 : 0 < S.length := by omega
    -- some of them twice
    dsimp only
    refine go_seq (go_forR ?_)
    refine ⟨_, rfl, p, cc, n + 1 + 20 * (1 + j), 3, rfl, p3, by omega, by decide, by decide, fun r H4 r0 r1 b4 p4 => ?_⟩
    obtain ⟨q, rfl⟩ : ∃ q : Nat, r = (q : Int) := ⟨r.toNat, by omega⟩
    have c4 := c3.mono (p3.kd b4)
    have b4 := b3.trans b4
    refine for_any (n := q) (fun i σ' H' => ∃ (S : List (List Int)) (vl : Option V), σ' = [some (.ref p), some (.int d), some (.ref a), vl, vb, none, none, none] ∧ But p H H' ∧ Pen H' p cc (n + 1 + 20 * (1 + j) + 1 + i) ∧
      Dt H' (.ref a) (.list (S.map ceD)) ∧ 0 < S.length ∧ S.length ≤ 24 + i ∧ ∀ x ∈ S, x.length = d ∧ Near 10 x) (tells_rngV rfl (by omega)) (fun H5 e5 _ => ⟨S, vl, rfl, b4.same e5, p4.same e5, c4.same e5, l0, l1, near⟩) (fun _ _ _ _ => trivial) ?_ ?_
    · rintro i x σ' H5 H6 lt ⟨S, vl, rfl, b5, p5, c5, l0, l1, near⟩ e6 rfl
      have b6 := b5.same e6
      have p6 := p5.same e6
      obtain ⟨_, xs, eq, hxs, hcs⟩ := (c5.same e6).lst_ref
      cases eq
      have lx := hcs.length
      rw [List.length_map] at lx
      refine ⟨_, rfl, Or.inl ⟨rfl, _, SqL.of hxs⟩, _, rfl, _, rfl, p, cc, a, n + 1 + 20 * (1 + j) + 1 + i, xs, rfl, p6, by omega, Or.inl hxs, by omega, by omega, fun y H7 hy b7 p7 => ?_⟩
      obtain ⟨c, hc, hyc⟩ := mem_cell hcs hy
      have kd7 := p6.kd b7
      have h7 := kd7 _ _ rfl hxs
      have k8 : Tk H7 (upd H7 a (.lst (xs ++ [y]))) := tk_l h7
      refine ⟨a, xs, y, rfl, rfl, h7, by rw [lx, sizeLine_eq]; omega, S ++ [c], _, rfl, (b6.trans b7).new na, (p7.le (by omega)).upd offa, .lst upd_same ?_, by simp, by rw [List.length_append]; show _ + 1 ≤ _; omega, fun x hx => ?_⟩
      · rw [List.map_append]
        exact (cells_tk k8 (hcs.mono kd7)).append (.cons (cell_tk k8 (hyc.mono kd7)) .nil)
      · rcases List.mem_append.mp hx with hx | hx
        · exact near x hx
        · rw [List.mem_singleton.mp hx]
          exact near c hc
    rintro σ' H5 ⟨S, vl, rfl, b5, p5, c5, l0, l1, near⟩
    have l1 : S.length ≤ 26 := by omega
    -- in any order
    dsimp only
    refine go_seq (go_asgN (go_lst0 fun o ho => ?_))
    have offo := p5.off ho
    have no := p5.free b5 ho
    have e6 := sameNew (o := HO.lst []) ho
    have o6 : (upd H5 o (.lst [])) o = some (.lst []) := upd_same
    generalize upd H5 o (.lst []) = H6 at e6 o6
    have p6 := p5.same e6
    have b6 := b5.same e6
    obtain ⟨_, xs, eq, hxs5, hcs⟩ := c5.lst_ref
    cases eq
    have hxs := e6 _ _ hxs5
    have noa : a ≠ o := fun z => by rw [z, ho] at hxs5; cases hxs5
    have lx := hcs.length
    rw [List.length_map] at lx
    dsimp only
    refine go_seq (go_forR ?_)
    refine ⟨_, rfl, a, xs, rfl, Or.inl (SqL.of hxs), ?_⟩
    refine for_any (n := xs.length) (fun i σ' H' => ∃ (A O : List (List Int)) (av ov : List V) (vl : Option V), σ' = [some (.ref p), some (.int d), some (.ref a), vl, vb, some (.ref o), none, none] ∧ But p H H' ∧ Pen H' p cc (n + 1 + 20 * (1 + j) + 1 + q + i) ∧
      H' a = some (.lst av) ∧ DtAll H' av (A.map ceD) ∧ H' o = some (.lst ov) ∧ DtAll H' ov (O.map ceD) ∧ A.length + i = S.length ∧ O.length = i ∧ (∀ x ∈ A, x ∈ S) ∧ ∀ x ∈ O, x ∈ S) (tells_rngV rfl (by omega))
      (fun H7 e7 _ => ⟨S, [], xs, [], vl, rfl, b6.same e7, (p6.same e7).le (by omega), e7 _ _ hxs, (hcs.same e6).same e7, e7 _ _ o6, .nil, rfl, rfl, fun x hx => hx, fun x hx => by cases hx⟩) (fun _ _ _ _ => trivial) ?_ ?_
    · rintro i x σ' H7 H8 lt ⟨A, O, av, ov, vl, rfl, b7, p7, h7a, d7a, h7o, d7o, la, lo, ra, ro⟩ e8 rfl
      have b8 := b7.same e8
      have p8 := p7.same e8
      have h8a := e8 _ _ h7a
      have h8o := e8 _ _ h7o
      have lA := d7a.length
      have lO := d7o.length
      rw [List.length_map] at lA lO
      refine ⟨_, rfl, Or.inl ⟨rfl, _, SqL.of h8o⟩, _, rfl, Or.inl ⟨rfl, _, SqL.of h8a⟩, _, rfl, _, rfl, a, _, rfl, Or.inl (SqL.of h8a), p, cc, n + 1 + 20 * (1 + j) + 1 + q + i, _, rfl, p8, by omega, by omega, by omega, fun r H9 r0 r1 b9 p9 => ?_⟩
      have kd := p8.kd b9
      have h9a := kd _ _ rfl h8a
      have h9o := kd _ _ rfl h8o
      have d9a := (d7a.same e8).mono kd
      have d9o := (d7o.same e8).mono kd
      have hk : r.toNat < av.length := by omega
      obtain ⟨dc, hdc, hyc⟩ := d9a.at (List.getElem?_eq_getElem hk)
      rw [List.getElem?_map] at hdc
      obtain ⟨c, hc, rfl⟩ := Option.map_eq_some_iff.mp hdc
      have hcA := List.mem_of_getElem? hc
      refine ⟨a, _, r, r.toNat, _, rfl, rfl, h9a, by omega, by omega, pop_ix r0 r1, List.getElem?_eq_getElem hk, ?_⟩
      have k10 : Tk H9 (upd H9 a (.lst (av.eraseIdx r.toNat))) := tk_l h9a
      have h10o : (upd H9 a (.lst (av.eraseIdx r.toNat))) o = some (.lst ov) := by rw [upd_ne (Ne.symm noa)]; exact h9o
      have k11 := k10.trans (tk_l (o := HO.lst (ov ++ [av[r.toNat]])) h10o)
      refine ⟨o, _, _, rfl, rfl, h10o, by rw [lO, lo, sizeLine_eq]; omega, ?_⟩
      refine ⟨A.eraseIdx r.toNat, O ++ [c], av.eraseIdx r.toNat, _, _, rfl, ((b8.trans b9).new na).new no, ((p9.le (by omega)).upd offa).upd offo, ?_, ?_, upd_same, ?_, ?_, by rw [List.length_append, lo]; rfl, fun z hz => ra z (List.mem_of_mem_eraseIdx hz), fun z hz => ?_⟩
      · rw [upd_ne noa, upd_same]
      · have := dta_erase r.toNat d9a
        rw [map_erase] at this
        exact cells_tk k11 this
      · rw [List.map_append]
        exact (cells_tk k11 d9o).append (.cons (cell_tk k11 hyc) .nil)
      · rw [List.length_eraseIdx_of_lt (by omega)]
        omega
      · rcases List.mem_append.mp hz with hz | hz
        · exact ro z hz
        · rw [List.mem_singleton.mp hz]
          exact ra _ hcA
    · rintro σ' H7 ⟨A, O, av, ov, vl, rfl, b7, p7, h7a, d7a, h7o, d7o, la, lo, ra, ro⟩
      refine ⟨_, rfl, _, rfl, p, cc, n + 1 + 20 * (1 + j) + 1 + q + xs.length, d, 10, .ref o, O, rfl, p7, by omega, .lst h7o d7o, by omega, by omega, hd, by decide, by decide, fun x hx => near x (ro x hx), fun t S' H8 nt b8 p8 h8 l8 n8 => ?_⟩
      exact k t S' H8 (p7.free b7 nt) (b7.trans b8) (p8.le (by omega)) h8 (by omega) (by omega) fun x hx => n8 x hx
end
end K01

namespace Cl
open PySem PySem.Spec
open PyProof.Rows hiding St
open L2
/-- flat data: of weight w at most, k deep -/
structure Fl (w k : Nat) (d : PyData) : Prop where
  sh : d.showable = true
  nd : d.hasDict = false
  lv : d.leavesShort 200 = true
  wt : d.weight ≤ w
  dp : d.depth ≤ k
theorem Fl.mono {w k w' k' : Nat} {d : PyData} (h : Fl w k d) (hw : w ≤ w') (hk : k ≤ k') : Fl w' k' d := ⟨h.sh, h.nd, h.lv, Nat.le_trans h.wt hw, Nat.le_trans h.dp hk⟩
theorem Fl.tells {w k : Nat} {d : PyData} (h : Fl w k d) (hw : w ≤ 80000) (hk : k ≤ 40) : Tells d := ⟨h.sh, .inl h.nd, h.lv, Nat.le_trans h.wt hw, Nat.le_trans h.dp hk⟩
theorem fl_all {w k : Nat} : ∀ {ds : List PyData}, (∀ d ∈ ds, Fl w k d) → PyData.showableAll ds = true ∧ PyData.hasDictAll ds = false ∧ PyData.leavesShortAll 200 ds = true ∧ PyData.weightAll ds ≤ ds.length * (w + 1) ∧ PyData.depthAll ds ≤ k
  | [], _ => ⟨rfl, rfl, rfl, Nat.zero_le _, Nat.zero_le _⟩
  | d :: ds, h => by
    obtain ⟨h1, h2, h3, h4, h5⟩ := fl_all fun x hx => h x (List.mem_cons_of_mem d hx)
    have g := h d List.mem_cons_self
    refine ⟨?_, ?_, ?_, ?_, Nat.max_le.mpr ⟨g.dp, h5⟩⟩
    · show (d.showable && PyData.showableAll ds) = true
      rw [g.sh, h1]
      rfl
    · show (d.hasDict || PyData.hasDictAll ds) = false
      rw [g.nd, h2]
      rfl
    · show (d.leavesShort 200 && PyData.leavesShortAll 200 ds) = true
      rw [g.lv, h3]
      rfl
    · show d.weight + 1 + PyData.weightAll ds ≤ (ds.length + 1) * (w + 1)
      have := g.wt
      rw [Nat.add_mul]
      omega
theorem Fl.tup {w k n : Nat} {ds : List PyData} (h : ∀ d ∈ ds, Fl w k d) (hn : ds.length ≤ n) : Fl (n * (w + 1)) (k + 1) (.tuple ds) := by
  obtain ⟨h1, h2, h3, h4, h5⟩ := fl_all h
  exact ⟨h1, h2, h3, Nat.le_trans h4 (Nat.mul_le_mul_right _ hn), Nat.succ_le_succ h5⟩
theorem Fl.lst {w k n : Nat} {ds : List PyData} (h : ∀ d ∈ ds, Fl w k d) (hn : ds.length ≤ n) : Fl (n * (w + 1)) (k + 1) (.list ds) := by
  obtain ⟨h1, h2, h3, h4, h5⟩ := fl_all h
  exact ⟨h1, h2, h3, Nat.le_trans h4 (Nat.mul_le_mul_right _ hn), Nat.succ_le_succ h5⟩
theorem fl_intW {i : Int} {b : Nat} (h : i.natAbs < 2 ^ b) (hb : b ≤ 190) : Fl (b + 1) 0 (.int i) := by
  have l : i.natAbs.log2 < b + 1 := by
    by_cases z : i.natAbs = 0
    · rw [z]; show 0 < b + 1; omega
    · exact Nat.lt_succ_of_lt ((Nat.log2_lt z).mpr h)
  have h60 : i.natAbs < 10 ^ 60 := Nat.lt_of_lt_of_le h (Nat.le_trans (Nat.pow_le_pow_right (by decide) hb) (by decide))
  refine ⟨?_, rfl, ?_, ?_, Nat.le_refl _⟩
  · simp [PyData.showable]; omega
  · have e := int_text_length_le10 (k := 60) (by decide) h60
    have e2 : (PyData.shown (.int i)).length ≤ 61 := by
      show (Str.ofString (toString i)).length ≤ 61
      rw [PySem.ofString_length]; exact e
    simp only [PyData.leavesShort, decide_eq_true_eq]
    omega
  · simp only [PyData.weight]
    split
    · omega
    · omega
theorem fl_near {c : List Int} {i : Int} (h : Near 65000 c) (hi : i ∈ c) : Fl 17 0 (.int i) := by
  have := h i hi
  exact fl_intW (b := 16) (by omega) (by decide)
theorem fl_cell {c : List Int} (h : Near 65000 c) (l : c.length ≤ 4) : Fl 72 1 (ceD c) := Fl.tup (n := 4) (w := 17) (fun d hd => by
  obtain ⟨i, hi, rfl⟩ := List.mem_map.mp hd
  exact fl_near h hi) (by rw [List.length_map]; exact l)
theorem fl_cells {S : List (List Int)} (h : ∀ x ∈ S, Near 65000 x ∧ x.length ≤ 4) (l : S.length ≤ 30) : Fl 2190 2 (.tuple (S.map ceD)) := Fl.tup (n := 30) (w := 72) (fun d hd => by
  obtain ⟨c, hc, rfl⟩ := List.mem_map.mp hd
  exact fl_cell (h c hc).1 (h c hc).2) (by rw [List.length_map]; exact l)
theorem once_mem {S : List (List Int)} {x : List Int} (h : x ∈ once S) : x ∈ S := mem_once.mp h
theorem comp_in {S : List (List Int)} {a x : List Int} (h : x ∈ comp S a) : x ∈ S := (mem_comp.mp h).1
theorem parts_in {S : List (List Int)} : ∀ q ∈ partsC S, ∃ a, q = comp S a := by
  unfold partsC
  have : ∀ (L : List (List Int)) (acc : List (List (List Int))), (∀ q ∈ acc, ∃ a, q = comp S a) → ∀ q ∈ L.foldl (metC S) acc, ∃ a, q = comp S a := by
    intro L
    induction L with
    | nil => exact fun acc h => h
    | cons c L ih =>
      intro acc h
      refine ih _ fun q hq => ?_
      unfold metC at hq
      split at hq
      · exact h q hq
      · rcases List.mem_append.mp hq with hq | hq
        · exact h q hq
        · exact ⟨c, List.mem_singleton.mp hq⟩
  exact this _ [] fun q hq => by cases hq
theorem parts_len (S : List (List Int)) : (partsC S).length ≤ S.length := by
  have := mets_len S (srt S)
  rw [srt_len] at this
  exact this
theorem fl_parts {S : List (List Int)} (h : ∀ x ∈ S, Near 65000 x ∧ x.length ≤ 4) (l : S.length ≤ 30) : Fl 70000 3 (.tuple ((partsC (once S)).map partD)) := by
  have lo := once_len S
  refine (Fl.tup (n := 30) (w := 2190) (fun d hd => ?_) ?_).mono (by decide) (Nat.le_refl _)
  · obtain ⟨q, hq, rfl⟩ := List.mem_map.mp hd
    obtain ⟨a, rfl⟩ := parts_in q hq
    have := comp_len (once S) a
    exact fl_cells (fun x hx => h x (once_mem (comp_in hx))) (by omega)
  · rw [List.length_map]
    have := parts_len (once S)
    omega
theorem cells_inj : ∀ {A B : List (List Int)}, A.map ceD = B.map ceD → A = B
  | [], [], _ => rfl
  | [], _ :: _, h => by cases h
  | _ :: _, [], h => by cases h
  | a :: A, b :: B, h => by
    have h1 := List.head_eq_of_cons_eq h
    have h2 := List.tail_eq_of_cons_eq h
    rw [ceD_inj h1, cells_inj h2]
theorem eqv_strs (L : List Str) : PyData.eqv (.list (L.map PyData.str)) (.list (L.map PyData.str)) = true := by
  rw [PyData.eqv]
  induction L with
  | nil => rfl
  | cons x L ih =>
    show (PyData.eqv (.str x) (.str x) && PyData.eqvAll (L.map PyData.str) (L.map PyData.str)) = true
    have e : PyData.eqv (.str x) (.str x) = true := by
      unfold PyData.eqv
      simp
    rw [ih, e]
    rfl
theorem eqv_strT (L : List Str) : PyData.eqv (.tuple (L.map PyData.str)) (.tuple (L.map PyData.str)) = true := by
  have h := eqv_strs L
  rw [PyData.eqv] at h
  rw [PyData.eqv]
  exact h
theorem cmpr_strs (L : List Str) (h : ∀ x ∈ L, (PyData.str x).canLay0 = true) : Cmpr 1 (.list (L.map PyData.str)) ∧ Cmpr 1 (.tuple (L.map PyData.str)) := by
  have : ∀ d ∈ L.map PyData.str, Cmpr 0 d := fun d hd => by
    obtain ⟨x, hx, rfl⟩ := List.mem_map.mp hd
    exact ⟨h x hx, Nat.zero_le _⟩
  exact ⟨Cmpr.lst this, Cmpr.tup this⟩
theorem eqv_two (L : List Str) : PyData.eqv (.list [.tuple (L.map PyData.str), .tuple (L.map PyData.str)]) (.list [.tuple (L.map PyData.str), .tuple (L.map PyData.str)]) = true := by
  rw [PyData.eqv]
  show (PyData.eqv (.tuple (L.map PyData.str)) (.tuple (L.map PyData.str)) && (PyData.eqv (.tuple (L.map PyData.str)) (.tuple (L.map PyData.str)) && true)) = true
  rw [eqv_strT]
  rfl
theorem tells_bool (b : Bool) : Tells (.bool b) := ⟨rfl, .inl rfl, rfl, Nat.zero_le _, Nat.zero_le _⟩
end Cl
namespace K01
open PySem PySem.Spec
open PyProof.Rows hiding St
open L2 Cl
section
variable {c : List Int} {d : PyData}
theorem fl_fix (h : d ∈ [PyData.none, .int 3, .str "00", .bool true, .str "0", .int 0, .tuple [.int 0], .tuple [], .tuple [.int 0, .int 0, .int 0, .int 0, .int 0]]) : Fl 100 2 d := by
  have i3 : Fl 17 0 (.int 3) := (fl_intW (b := 4) (by decide) (by decide)).mono (by decide) (Nat.le_refl _)
  have i0 : Fl 17 0 (.int 0) := (fl_intW (b := 4) (by decide) (by decide)).mono (by decide) (Nat.le_refl _)
  simp only [List.mem_cons, List.not_mem_nil, or_false] at h
  rcases h with rfl | rfl | rfl | rfl | rfl | rfl | rfl | rfl | rfl
  · exact ⟨rfl, rfl, rfl, Nat.zero_le _, Nat.zero_le _⟩
  · exact i3.mono (by decide) (by decide)
  · exact ⟨rfl, rfl, by decide, by decide, Nat.zero_le _⟩
  · exact ⟨rfl, rfl, rfl, Nat.zero_le _, Nat.zero_le _⟩
  · exact ⟨rfl, rfl, by decide, by decide, Nat.zero_le _⟩
  · exact i0.mono (by decide) (by decide)
  · exact (Fl.tup (n := 1) (fun d hd => by rw [List.mem_singleton.mp hd]; exact i0) (by decide)).mono (by decide) (by decide)
  · exact ⟨rfl, rfl, rfl, Nat.zero_le _, by decide⟩
  · exact (Fl.tup (n := 5) (fun d hd => by
      simp only [List.mem_cons, List.not_mem_nil, or_false] at hd
      rcases hd with rfl | rfl | rfl | rfl | rfl <;> exact i0) (by decide)).mono (by decide) (by decide)
theorem of_len {n : Int} {ds : List PyData} (h : ((ds.length : Int)) ≠ n) : isOf n (.tuple ds) = false := by
  show (decide ((ds.length : Int) = n) && ds.all whl) = false
  rw [decide_eq_false h]
  rfl
theorem of_bad {n : Int} {ds : List PyData} {e : PyData} (h : e ∈ ds) (w : whl e = false) : isOf n (.tuple ds) = false := by
  show (decide ((ds.length : Int) = n) && ds.all whl) = false
  have : ds.all whl = false := by
    rw [Bool.eq_false_iff]
    intro z
    have := List.all_eq_true.mp z e h
    rw [w] at this
    cases this
  rw [this, Bool.and_false]
/-- what is asked of a drawn odd value -/
def OddOk (n : Int) (d : PyData) : Prop := (Tells d ∧ (∀ ds, d = .tuple ds → puAll ds = true ∧ ∀ e ∈ ds, Cmpr 20 e)) ∧ isOf n d = false
theorem odd_tup {n : Int} {ds : List PyData} (h : ∀ e ∈ ds, Fl 100 2 e ∧ pu e = true ∧ Cmpr 20 e) (l : ds.length ≤ 10) (f : isOf n (.tuple ds) = false) : OddOk n (.tuple ds) := by
  refine ⟨⟨(Fl.tup (n := 10) (fun d hd => (h d hd).1) l).tells (by decide) (by decide), fun es eq => ?_⟩, f⟩
  cases eq
  exact ⟨puAll_of fun d hd => (h d hd).2.1, fun e he => (h e he).2.2⟩
theorem cm_leaf {d : PyData} (h : d.canLay0 = true) (g : d.depth ≤ 20) : Cmpr 20 d := ⟨h, g⟩
/-- a drawn odd value may be told and compared, and is no cell of c's dimension -/
theorem odd_ok (hc : Near 65000 c) (hd : Dm c.length) (h : d ∈ oddL c) : OddOk (c.length : Int) d := by
  have l4 : c.length ≤ 4 := by rcases hd with h | h | h <;> rw [h] <;> decide
  have l2 : 2 ≤ c.length := by rcases hd with h | h | h <;> rw [h] <;> decide
  have int : ∀ e ∈ c.map PyData.int, Fl 100 2 e ∧ pu e = true ∧ Cmpr 20 e := fun e he => by
    obtain ⟨i, hi, rfl⟩ := List.mem_map.mp he
    exact ⟨(fl_near hc hi).mono (by decide) (by decide), rfl, rfl, Nat.zero_le _⟩
  have ln : (c.map PyData.int).length = c.length := List.length_map _
  have tk : ∀ e ∈ (c.map PyData.int).take ((c.map PyData.int).length - 1), Fl 100 2 e ∧ pu e = true ∧ Cmpr 20 e := fun e he => int e (List.mem_of_mem_take he)
  have ltk : ((c.map PyData.int).take ((c.map PyData.int).length - 1)).length = c.length - 1 := by rw [List.length_take, ln]; omega
  unfold oddL at h
  generalize (c.map PyData.int).take ((c.map PyData.int).length - 1) = tks at h tk ltk
  have leaf : ∀ d : PyData, Tells d → (∀ ds, d ≠ .tuple ds) → isOf (c.length : Int) d = false → OddOk (c.length : Int) d := fun d t n f => ⟨⟨t, fun ds e => absurd e (n ds)⟩, f⟩
  have snoc : ∀ e : PyData, Fl 100 2 e → pu e = true → Cmpr 20 e → whl e = false → OddOk (c.length : Int) (.tuple (tks ++ [e])) := fun e f p m w =>
    odd_tup (fun x hx => by
      rcases List.mem_append.mp hx with hx | hx
      · exact tk x hx
      · rw [List.mem_singleton.mp hx]
        exact ⟨f, p, m⟩) (by rw [List.length_append, ltk]; show c.length - 1 + 1 ≤ 10; omega) (of_bad (List.mem_append_right _ (List.mem_singleton.mpr rfl)) w)
  have fx : ∀ {e : PyData}, e ∈ [PyData.none, .int 3, .str "00", .bool true, .str "0", .int 0, .tuple [.int 0], .tuple [], .tuple [.int 0, .int 0, .int 0, .int 0, .int 0]] → Fl 100 2 e := fun h => fl_fix h
  have z0 : Fl 100 2 (.int 0) := fx (by simp)
  simp only [List.mem_append, List.mem_cons, List.not_mem_nil, or_false] at h
  rcases h with ((rfl | rfl | rfl | rfl | rfl | rfl | rfl | rfl) | (rfl | rfl)) | (rfl | rfl | rfl | rfl | rfl)
  · exact leaf _ ((fx (by simp)).tells (by decide) (by decide)) (fun ds z => by cases z) rfl
  · exact leaf _ ((fx (by simp)).tells (by decide) (by decide)) (fun ds z => by cases z) rfl
  · exact leaf _ ((fx (by simp)).tells (by decide) (by decide)) (fun ds z => by cases z) rfl
  · exact leaf _ ((Fl.lst (n := 10) (fun d hd => (int d hd).1) (by rw [ln]; omega)).tells (by decide) (by decide)) (fun ds z => by cases z) rfl
  · exact odd_tup tk (by rw [ltk]; omega) (of_len (by rw [ltk]; omega))
  · refine odd_tup (fun x hx => ?_) (by rw [List.length_append, ln]; show c.length + 1 ≤ 10; omega) (of_len ?_)
    · rcases List.mem_append.mp hx with hx | hx
      · exact int x hx
      · rw [List.mem_singleton.mp hx]
        exact ⟨z0, rfl, rfl, Nat.zero_le _⟩
    · rw [List.length_append, ln]
      show ((c.length + 1 : Nat) : Int) ≠ c.length
      omega
  · exact snoc (.bool true) (fx (by simp)) rfl (cm_leaf rfl (Nat.zero_le _)) rfl
  · exact snoc (.str "0") (fx (by simp)) rfl (cm_leaf (by decide +kernel) (Nat.zero_le _)) rfl
  · exact snoc .none (fx (by simp)) rfl (cm_leaf rfl (Nat.zero_le _)) rfl
  · exact snoc (.tuple [.int 0]) (fx (by simp)) rfl (cm_leaf rfl (by decide)) rfl
  · exact odd_tup (fun x hx => by cases hx) (by show 0 ≤ 10; decide) (of_len (by show ((0 : Nat) : Int) ≠ c.length; omega))
  · exact odd_tup (fun x hx => by rw [List.mem_singleton.mp hx]; exact ⟨z0, rfl, rfl, Nat.zero_le _⟩) (by show 1 ≤ 10; decide) (of_len (by show ((1 : Nat) : Int) ≠ c.length; omega))
  · exact odd_tup (fun x hx => by
      simp only [List.mem_cons, List.not_mem_nil, or_false] at hx
      rcases hx with rfl | rfl | rfl | rfl | rfl <;> exact ⟨z0, rfl, rfl, Nat.zero_le _⟩) (by show 5 ≤ 10; decide) (of_len (by show ((5 : Nat) : Int) ≠ c.length; omega))
  · refine odd_tup (fun x hx => ?_) (by show 2 ≤ 10; decide) (of_bad List.mem_cons_self rfl)
    simp only [List.mem_cons, List.not_mem_nil, or_false] at hx
    rcases hx with rfl | rfl <;> exact ⟨(fl_cell hc l4).mono (by decide) (by decide), pu_cell c, (cmpr_cell c).1, Nat.le_trans (cmpr_cell c).2 (by decide)⟩
  · exact leaf _ ⟨rfl, .inr rfl, rfl, Nat.zero_le _, by decide⟩ (fun ds z => by cases z) rfl
theorem txt_cell (c : List Int) : Txt (ceD c) := .tuple fun d hd => by
  obtain ⟨i, _, rfl⟩ := List.mem_map.mp hd
  exact .int i
theorem odd_txt (h : d ∈ oddL c) : Txt d := by
  have int : ∀ e ∈ c.map PyData.int, Txt e := fun e he => by
    obtain ⟨i, hi, rfl⟩ := List.mem_map.mp he
    exact .int i
  have tk : ∀ e ∈ (c.map PyData.int).take ((c.map PyData.int).length - 1), Txt e := fun e he => int e (List.mem_of_mem_take he)
  unfold oddL at h
  generalize (c.map PyData.int).take ((c.map PyData.int).length - 1) = tks at h tk
  have snoc : ∀ {L : List PyData} {e : PyData}, (∀ x ∈ L, Txt x) → Txt e → Txt (.tuple (L ++ [e])) := fun f g => .tuple fun x hx => by
    rcases List.mem_append.mp hx with hx | hx
    · exact f x hx
    · rw [List.mem_singleton.mp hx]
      exact g
  have sOk : PyData.strOk (reprText "00") = true ∧ PyData.strOk (reprText "0") = true := by decide +kernel
  simp only [List.mem_append, List.mem_cons, List.not_mem_nil, or_false] at h
  rcases h with ((rfl | rfl | rfl | rfl | rfl | rfl | rfl | rfl) | (rfl | rfl)) | (rfl | rfl | rfl | rfl | rfl)
  · exact .non
  · exact .int _
  · exact .str sOk.1
  · exact .list int
  · exact .tuple tk
  · exact snoc int (.int _)
  · exact snoc tk (.bool _)
  · exact snoc tk (.str sOk.2)
  · exact snoc tk .non
  · exact snoc tk (.tuple fun x hx => by rw [List.mem_singleton.mp hx]; exact .int _)
  · exact .tuple fun x hx => by cases hx
  · exact .tuple fun x hx => by rw [List.mem_singleton.mp hx]; exact .int _
  · exact .tuple fun x hx => by
      simp only [List.mem_cons, List.not_mem_nil, or_false] at hx
      rcases hx with rfl | rfl | rfl | rfl | rfl <;> exact .int _
  · exact .tuple fun x hx => by
      simp only [List.mem_cons, List.not_mem_nil, or_false] at hx
      rcases hx with rfl | rfl <;> exact txt_cell c
  · exact .edc
/-- the wrong numbers -/
def wrongL : List PyData := [.int 0, .int 1, .int 5, .int (-2), .none, .bool true, .str "2", .tuple [.int 2], .int (10 ^ (20 : Int).toNat)]
theorem wrong_ok (h : d ∈ wrongL) : (Tells d ∧ Txt d) ∧ dimD d = false := by
  have big : ∀ {i : Int}, i.natAbs < 2 ^ 70 → Tells (.int i) := fun h => (fl_intW (b := 70) h (by decide)).tells (by decide) (by decide)
  have sOk : PyData.strOk (reprText "2") = true := by decide +kernel
  simp only [wrongL, List.mem_cons, List.not_mem_nil, or_false] at h
  rcases h with rfl | rfl | rfl | rfl | rfl | rfl | rfl | rfl | rfl
  · exact ⟨⟨big (by decide), .int _⟩, rfl⟩
  · exact ⟨⟨big (by decide), .int _⟩, rfl⟩
  · exact ⟨⟨big (by decide), .int _⟩, rfl⟩
  · exact ⟨⟨big (by decide), .int _⟩, rfl⟩
  · exact ⟨⟨⟨rfl, .inl rfl, rfl, Nat.zero_le _, Nat.zero_le _⟩, .non⟩, rfl⟩
  · exact ⟨⟨tells_bool _, .bool _⟩, rfl⟩
  · exact ⟨⟨⟨rfl, .inl rfl, by decide, by decide, Nat.zero_le _⟩, .str sOk⟩, rfl⟩
  · exact ⟨⟨(Fl.tup (n := 1) (w := 17) (k := 0) (fun d hd => by rw [List.mem_singleton.mp hd]; exact (fl_intW (b := 4) (by decide) (by decide)).mono (by decide) (Nat.le_refl _)) (by decide)).tells (by decide) (by decide), .tuple fun x hx => by rw [List.mem_singleton.mp hx]; exact .int _⟩, rfl⟩
  · exact ⟨⟨big (by decide), .int _⟩, rfl⟩
end
end K01

namespace K01
open PySem PySem.Spec
open PyProof.Rows hiding St
open L2 Cl
open LamX (Tabs TabB)
abbrev s_law : Stmt := top 33
theorem sc_law : FnScope ["script", "pen", "dimension", "cells", "cell", "parts", "passed", "odd", "at", "told", "bent", "due", "found", "wrong", "other"] ["script"] (defScope s_law) := ⟨rfl, rfl, rfl, by decide +kernel, rfl, by decide +kernel, by decide +kernel⟩
theorem tabs_but {T : List (Addr × Str)} {H H' : Hp} {q : Addr} {u : HO} (t : Tabs T H) (hq : H q = some u) (h1 : ∀ ps, u ≠ .tbl ps) (h2 : ∀ f, u ≠ .ext f) (b : But q H H') : Tabs T H' := fun p hp => by
  obtain ⟨ps, e1, e2, e3⟩ := t p hp
  refine ⟨ps, b _ _ e1 (fun z => ?_), e2, fun pos cv hc => ?_⟩
  · rw [z, hq] at e1
    cases e1
    exact h1 _ rfl
  · obtain ⟨c, e4, e5⟩ := e3 pos cv hc
    refine ⟨c, e4, b _ _ e5 fun z => ?_⟩
    rw [z, hq] at e5
    cases e5
    exact h2 _ rfl
theorem go_nil {σ : St} {H : Hp} {Q : List V → Hp → Prop} (h : Q [] H) : tNil σ H Q := h
theorem go_noPart {σ : St} {H : Hp} {Q : Option Int → Hp → Prop} (h : Q none H) : tNoPart σ H Q := h
theorem tabs_pen {T : List (Addr × Str)} {H H' : Hp} {p c : Addr} {n : Nat} (t : Tabs T H) (h : Pen H p c n) (b : But p H H') : Tabs T H' := by
  obtain ⟨i, dg, ct, fo, ns, h1, _⟩ := h
  exact tabs_but t h1 (fun _ z => by cases z) (fun _ z => by cases z) b
theorem kd_mut {H H' : Hp} {a : Addr} {o : HO} (e : Kd H H') (h : H a = none) : Kd H (upd H' a o) := fun b u d hb => by
  rw [upd_ne (ne_of_none hb h)]
  exact e b u d hb
section
variable {P : Program} {w : World} {K : PySem.W.Frag} {mg : Str → Option Value} {base : Heap}
theorem go_ifF {tt : TT} {a b : TS} {D : Ends} {σ : St} {H : Hp} (R : Hp → Prop) (h : ∀ Q' : Bool → Hp → Prop, (∀ H', R H' → Q' false H') → tt σ H Q') (k : ∀ H', R H' → b D σ H') : tIfS tt a b D σ H :=
  h _ fun H' r => k H' r
/-- due = odd if at > 0 or not _law_any(odd) else cells[0] -/
theorem go_due {σ : St} {H : Hp} {Q : VK} {u v3 : V} {d : PyData} {at_ : Nat} {S : List (List Int)} {c0 : List Int} (h7 : σ[7]? = some (some u)) (h8 : σ[8]? = some (some (.int (at_ : Int)))) (h3 : σ[3]? = some (some v3)) (hu : Dt H u d) (wu : d.weight ≤ 90000)
    (uo : ∀ ds, d = .tuple ds → puAll ds = true ∧ ∀ e ∈ ds, Cmpr 20 e) (hc : Dt H v3 (.list (S.map ceD))) (h0 : S[0]? = some c0)
    (k : ∀ dv de H', Same H H' → Dt H' dv de → (de = d ∧ (0 < at_ ∨ isAny d = false)) ∨ (de = ceD c0 ∧ at_ = 0 ∧ isAny d = true) → Q dv H') :
    tIf (tOr (tTest (tOp (rI0 fun i j => V.bl (decide (j < i))) (tVar 8) (tC (V.int 0)))) (tNot (tB (tCallS spLAny Eno (tCons (tVar 7) tNil))))) (tVar 7) (tOp (rIxL K) (tVar 3) (tC (V.int 0))) σ H Q := by
  refine ⟨_, h8, _, _, rfl, rfl, _, rfl, ite2 (fun z => ?_) (fun z => ?_)⟩
  · have z := of_decide_eq_true z
    exact ⟨u, h7, k u d H (Same.refl _) hu (.inl ⟨rfl, .inl (by omega)⟩)⟩
  · have z : ¬ ((0 : Int) < (at_ : Int)) := fun y => z (decide_eq_true y)
    refine ⟨u, h7, u, d, rfl, hu, wu, uo, fun H1 e1 => ⟨_, rfl, ?_⟩⟩
    show if (!isAny d) = true then _ else _
    refine ite2 (fun y => ?_) (fun y => ?_)
    · exact ⟨u, h7, k u d H1 e1 (hu.same e1) (.inl ⟨rfl, .inr (by simpa using y)⟩)⟩
    · refine ⟨v3, h3, ?_⟩
      exact ixL_dt (j := 0) (d := ceD c0) (hc.same e1) (by rw [List.getElem?_map, h0]; rfl) fun v hv => k v _ H1 e1 hv (.inr ⟨rfl, by omega, by simpa using y⟩)
def lamQ : Str := "law.<locals>.<lambda>"
def spLaw (K : PySem.W.Frag) (Pt : Addr) : Sp := fun vs H Q _ => ∃ (a : Addr) (ns : List Int), vs = [.ref a] ∧ SqL K H a (ns.map V.int) ∧ ns.length ≤ 63 ∧ Tabs [(Pt, lamQ)] H ∧ ∀ H', Q (.bl true) H'
theorem ok_law (T : Tx K mg) {qual : Str} {ar : Arguments} {dv : List V} {kw : List (Str × V)} {dp : He.Defn} {fd : FuncData} {Pt : Addr} (F : FunD K qual "law" ar (defBody s_law) (defScope s_law) dv kw (He.fAd K dp) fd)
    (TB : TabB base mg (He.codeOf K dp) Pt)
    (D_law_pen : Def P w K mg base "_law_pen" 1 ["script"] (spPen K)) (D_law_draw : Def P w K mg base "_law_draw" 1 ["pen", "many"] spDraw) (D_law_pick : Def P w K mg base "_law_pick" 2 ["pen", "some"] spPick)
    (D_law_lot : Def P w K mg base "_law_lot" 4 ["pen", "dimension"] spLot) (D_law_around : Def P w K mg base "_law_around" 1 ["cell"] spLAround) (D_law_parts : Def P w K mg base "_law_parts" 3 ["cells"] spLParts)
    (D_law_odd : Def P w K mg base "_law_odd" 3 ["pen", "cell"] spOdd) (D_law_any : Def P w K mg base "_law_any" 1 ["value"] spLAny)
    (D_beside : Def P w K mg base "beside" 4 ["cell"] (spBeside K)) (D_parts_of : Def P w K mg base "parts_of" 5 ["cells"] (spPartsOf K)) (D_hangs : Def P w K mg base "hangs" 6 ["cells"] (spHangs K))
    (D_is_cell : Def P w K mg base "is_cell" 3 ["value", "dimension"] (spIsCell K)) (G_refused : Cl.Top K mg "_law_refused" s_law_refused ["call"]) : FnG P w K mg base 9 (He.fAd K dp) fd ["script"] (spLaw K Pt) := by
  obtain ⟨gr, fr_, F_law_refused, m_law_refused, b_law_refused⟩ := G_refused
  refine FnG.ofT F sc_law (fun h => ?_) fun A fr s H vs Q E hr hgd h => ?_
  · obtain ⟨a, ns, rfl, _⟩ := h
    rfl
  obtain ⟨a, ns, rfl, hS, hl, hT, fin⟩ := h
  have inT : (Pt, lamQ) ∈ [(Pt, lamQ)] := List.mem_singleton.mpr rfl
  have oneT : ∀ p ∈ [(Pt, lamQ)], p.1 = Pt → p.2 = lamQ := fun p hp _ => by rw [List.mem_singleton.mp hp]
  refine ⟨_, (pss_cons (ps_set (i := 1) sc_law.nd rfl (Or.inl rfl) (pe_d D_law_pen (hr.mono (by decide)) hgd (by rfl) passNo (pa_cons (pv 0) pa_nil)))
      (pss_cons (ps_for (passes_of rfl) rfl (kPiL K (pe_lst (pa_cons pe_int (pa_cons pe_int (pa_cons pe_int pa_nil))))) (pg_name (i := 2) sc_law.nd rfl (Or.inr rfl))
      (pss_cons (ps_set (i := 3) sc_law.nd rfl (Or.inl rfl) (pe_d D_law_lot (hr.mono (by decide)) hgd (by rfl) passNo (pa_cons (pv 1) (pa_cons (pv 2) pa_nil))))
      (pss_cons (ps_set (i := 4) sc_law.nd rfl (Or.inr rfl) (pe_d D_law_pick (hr.mono (by decide)) hgd (by rfl) passNo (pa_cons (pv 1) (pa_cons (pv 3) pa_nil))))
      (pss_cons (ps_if (pt_cmpR op_ne (pe_callB (call_repr hgd hr.units) (by rfl) T.n_repr bt_repr (pa_cons (pe_d D_beside (hr.mono (by decide)) hgd (by rfl) passNo (pa_cons (pv 4) pa_nil)) pa_nil)) (pe_callB (call_repr hgd hr.units) (by rfl) T.n_repr bt_repr (pa_cons (pe_callTy (kTuple K) (by rfl) T.n_tuple bt_tuple (pa_cons (pe_d D_law_around (hr.mono (by decide)) hgd (by rfl) passNo (pa_cons (pv 4) pa_nil)) pa_nil)) pa_nil)) (nomark _))
      (pss_one (ps_ret pe_bl))
      pss_nil)
      (pss_cons (ps_set (i := 5) sc_law.nd rfl (Or.inl rfl) (pe_d D_law_parts (hr.mono (by decide)) hgd (by rfl) passNo (pa_cons (pv 3) pa_nil)))
      (pss_cons (ps_set (i := 6) sc_law.nd rfl (Or.inl rfl) (pe_d D_law_pick (hr.mono (by decide)) hgd (by rfl) passNo (pa_cons (pv 1) (pa_cons (pe_lst (pa_cons (pe_callTy (kList K) (by rfl) T.n_list bt_list (pa_cons (pv 3) pa_nil)) (pa_cons (pe_callTy (kTuple K) (by rfl) T.n_tuple bt_tuple (pa_cons (pv 3) pa_nil)) pa_nil))) pa_nil))))
      (pss_cons (ps_if (PW.pt (pw_or (pt_cmpR op_ne (pe_callB (call_repr hgd hr.units) (by rfl) T.n_repr bt_repr (pa_cons (pe_d D_parts_of (hr.mono (by decide)) hgd (by rfl) passNo (pa_cons (pv 6) pa_nil)) pa_nil)) (pe_callB (call_repr hgd hr.units) (by rfl) T.n_repr bt_repr (pa_cons (pe_callTy (kTuple K) (by rfl) T.n_tuple bt_tuple (pa_cons (pv 5) pa_nil)) pa_nil)) (nomark _)) (pw_or1 (pt_cmpR op_ne (pe_callB (call_repr hgd hr.units) (by rfl) T.n_repr bt_repr (pa_cons (pe_d D_hangs (hr.mono (by decide)) hgd (by rfl) passNo (pa_cons (pv 6) pa_nil)) pa_nil)) (pe_callB (call_repr hgd hr.units) (by rfl) T.n_repr bt_repr (pa_cons (pe_cmpR op_eq (pe_callB (kLen K) (by rfl) T.n_len bt_len (pa_cons (pv 5) pa_nil)) pe_int (nomark _)) pa_nil)) (nomark _)))))
      (pss_one (ps_ret pe_bl))
      pss_nil)
      (pss_cons (ps_if (pt_cmpR (op_neT hr.units) (pe_callTy (kList K) (by rfl) T.n_list bt_list (pa_cons (pv 6) pa_nil)) (pv 3) (nomark _))
      (pss_one (ps_ret pe_bl))
      pss_nil)
      (pss_cons (ps_asg (pe_tup (pa_cons (pe_d D_law_odd (hr.mono (by decide)) hgd (by rfl) passNo (pa_cons (pv 1) (pa_cons (pv 4) pa_nil))) (pa_cons (pe_d D_law_draw (hr.mono (by decide)) hgd (by rfl) passNo (pa_cons (pv 1) (pa_cons (pe_op op_add (pe_callB (kLen K) (by rfl) T.n_len bt_len (pa_cons (pv 3) pa_nil)) pe_int) pa_nil))) pa_nil))) (kTg K rfl (pgs_cons (pg_name (i := 7) sc_law.nd rfl (Or.inr rfl)) (pgs_cons (pg_name (i := 8) sc_law.nd rfl (Or.inl rfl)) pgs_nil))))
      (pss_cons (ps_setLc (i := 9) (own := [("other", 14)]) (g := (gName 14)) (tt := tYes) (by rfl) sc_law.nd rfl rfl (sw_true rfl rfl rfl (by decide +kernel)) (kPiL K (pe_lst (pa_cons pe_int (pa_cons pe_int (pa_cons pe_int pa_nil))))) (blkOk_by (own := [("other", 14)]) (N := ["script", "pen", "dimension", "cells", "cell", "parts", "passed", "odd", "at", "told", "bent", "due", "found", "wrong", "other"]) (sc := defScope s_law) (by decide +kernel)) (fun _ _ _ _ _ => (pg_name (i := 14) sc_law.nd rfl (Or.inl rfl))) (fun _ _ _ _ _ => pts_nil) (fun _ _ _ _ _ => (pe_callB (call_repr hgd hr.units) (by rfl) T.n_repr bt_repr (pa_cons (pe_d D_is_cell (hr.mono (by decide)) hgd (by rfl) passNo (pa_cons (pv 4) (pa_cons (pv 14) pa_nil))) pa_nil))))
      (pss_cons (ps_if (pt_cmpR (op_neT hr.units) (pv 9) (pe_lc (own := [("other", 14)]) (g := (gName 14)) (tt := tYes) (by rfl) sc_law.nd (kPiL K (pe_lst (pa_cons pe_int (pa_cons pe_int (pa_cons pe_int pa_nil))))) (blkOk_by (own := [("other", 14)]) (N := ["script", "pen", "dimension", "cells", "cell", "parts", "passed", "odd", "at", "told", "bent", "due", "found", "wrong", "other"]) (sc := defScope s_law) (by decide +kernel)) (fun _ _ _ _ _ => (pg_name (i := 14) sc_law.nd rfl (Or.inl rfl))) (fun _ _ _ _ _ => pts_nil) (fun _ _ _ _ _ => (pe_callB (call_repr hgd hr.units) (by rfl) T.n_repr bt_repr (pa_cons (pe_cmpR op_eq (pv 14) (pv 2) (nomark _)) pa_nil)))) (nomark _))
      (pss_one (ps_ret pe_bl))
      pss_nil)
      (pss_cons (ps_if (pt_cmpR op_notBl (pe_d D_is_cell (hr.mono (by decide)) hgd (by rfl) passNo (pa_cons (pv 7) (pa_cons (pv 2) pa_nil))) pe_bl (nomark _))
      (pss_one (ps_ret pe_bl))
      pss_nil)
      (pss_cons (ps_set (i := 10) sc_law.nd rfl (Or.inr rfl) (pe_op op_cat (pe_op op_cat (pe_op op_cat (pe_slice (kSlL K) (pv 3) po_none (po_some (pv 8))) (pe_lst (pa_cons (pv 7) pa_nil))) (pe_slice (kSlL K) (pv 3) (po_some (pv 8)) po_none)) (pe_lst (pa_cons pe_non pa_nil))))
      (pss_cons (ps_set (i := 11) sc_law.nd rfl (Or.inl rfl) (pe_ifExp (PW.pt (pw_or (pt_cmpR op_gt (pv 8) pe_int (nomark _)) (pw_or1 (pt_not (pt_val (pe_d D_law_any (hr.mono (by decide)) hgd (by rfl) passNo (pa_cons (pv 7) pa_nil))))))) (pv 7) (pe_ix (kIxL K) (pv 3) pe_int (fun _ _ => rfl))))
      (pss_cons (ps_set (i := 12) sc_law.nd rfl (Or.inl rfl) (pe_lst (pa_cons (pe_lamG (k := 6) F_law_refused (by rfl) m_law_refused b_law_refused sc_law_refused rfl (by first | exact Or.inl rfl | exact Or.inr (Or.inl rfl)) hgd (fun cdg => gives_refused _ T) TB rfl inT oneT (hr.mono (by decide)) (LamX.lamS_by (by show LamX.lamSB (defScope s_law) _ = true; decide +kernel)) rfl (fun _ _ _ _ _ => rfl) (fun A outer s H E f c' hgA hr2 => (pe_d D_parts_of (hr2.mono (by decide)) hgA (by rfl) (fun σ => passAt (takes_of rfl rfl rfl rfl) σ) (pa_cons (pv 10) pa_nil)))) pa_nil)))
      (pss_cons (ps_expr (pe_bm PySem.F.plainAttrs_list PySem.F.slot_list_append PySem.F.type_list_append mt_append (pv 12) (pa_cons (pe_lamG (k := 6) F_law_refused (by rfl) m_law_refused b_law_refused sc_law_refused rfl (by first | exact Or.inl rfl | exact Or.inr (Or.inl rfl)) hgd (fun cdg => gives_refused _ T) TB rfl inT oneT (hr.mono (by decide)) (LamX.lamS_by (by show LamX.lamSB (defScope s_law) _ = true; decide +kernel)) rfl (fun _ _ _ _ _ => rfl) (fun A outer s H E f c' hgA hr2 => (pe_d D_hangs (hr2.mono (by decide)) hgA (by rfl) (fun σ => passAt (takes_of rfl rfl rfl rfl) σ) (pa_cons (pe_callTy (kTuple K) (by rfl) T.n_tuple bt_tuple (pa_cons (pv 10) pa_nil)) pa_nil)))) pa_nil)))
      (pss_cons (ps_if (pt_cmpR (op_neT hr.units) (pv 12) (pe_op op_rep (pe_lst (pa_cons (pe_tup (pa_cons pe_str (pa_cons (pe_callB (call_repr hgd hr.units) (by rfl) T.n_repr bt_repr (pa_cons (pv 11) pa_nil)) pa_nil))) pa_nil)) pe_int) (nomark _))
      (pss_one (ps_ret pe_bl))
      pss_nil)
      (pss_cons (ps_if (PW.pt (pw_and (pt_not (pt_val (pe_d D_law_any (hr.mono (by decide)) hgd (by rfl) passNo (pa_cons (pv 7) pa_nil)))) (pw_and1 (pt_cmpR (op_neT hr.units) (pe_lamG (k := 6) F_law_refused (by rfl) m_law_refused b_law_refused sc_law_refused rfl (by first | exact Or.inl rfl | exact Or.inr (Or.inl rfl)) hgd (fun cdg => gives_refused _ T) TB rfl inT oneT (hr.mono (by decide)) (LamX.lamS_by (by show LamX.lamSB (defScope s_law) _ = true; decide +kernel)) rfl (fun _ _ _ _ _ => rfl) (fun A outer s H E f c' hgA hr2 => (pe_d D_beside (hr2.mono (by decide)) hgA (by rfl) (fun σ => passAt (takes_of rfl rfl rfl rfl) σ) (pa_cons (pv 7) pa_nil)))) (pe_tup (pa_cons pe_str (pa_cons (pe_callB (call_repr hgd hr.units) (by rfl) T.n_repr bt_repr (pa_cons (pv 7) pa_nil)) pa_nil))) (nomark _)))))
      (pss_one (ps_ret pe_bl))
      pss_nil)
      (pss_cons (ps_set (i := 13) sc_law.nd rfl (Or.inr rfl) (pe_d D_law_pick (hr.mono (by decide)) hgd (by rfl) passNo (pa_cons (pv 1) (pa_cons (pe_lst (pa_cons pe_int (pa_cons pe_int (pa_cons pe_int (pa_cons (pe_un un_neg pe_int) (pa_cons pe_non (pa_cons pe_bl (pa_cons pe_str (pa_cons (pe_tup (pa_cons pe_int pa_nil)) (pa_cons (pe_op op_pow pe_int pe_int) pa_nil)))))))))) pa_nil))))
      (pss_one (ps_if (pt_cmpR (op_neT hr.units) (pe_lamG (k := 6) F_law_refused (by rfl) m_law_refused b_law_refused sc_law_refused rfl (by first | exact Or.inl rfl | exact Or.inr (Or.inl rfl)) hgd (fun cdg => gives_refused _ T) TB rfl inT oneT (hr.mono (by decide)) (LamX.lamS_by (by show LamX.lamSB (defScope s_law) _ = true; decide +kernel)) rfl (fun _ _ _ _ _ => rfl) (fun A outer s H E f c' hgA hr2 => (pe_d D_is_cell (hr2.mono (by decide)) hgA (by rfl) (fun σ => passAt (takes_of rfl rfl rfl rfl) σ) (pa_cons (pv 4) (pa_cons (pv 13) pa_nil))))) (pe_tup (pa_cons pe_str (pa_cons pe_str (pa_cons (pe_callB (call_repr hgd hr.units) (by rfl) T.n_repr bt_repr (pa_cons (pv 13) pa_nil)) pa_nil)))) (nomark _))
      (pss_one (ps_ret pe_bl))
      pss_nil)))))))))))))))))))))
      (pss_one (ps_ret (pe_cmpR op_eq (pe_callB (call_repr hgd hr.units) (by rfl) T.n_repr bt_repr (pa_cons (pe_tup (pa_cons (pe_d D_parts_of (hr.mono (by decide)) hgd (by rfl) passNo (pa_cons (pe_lst pa_nil) pa_nil)) (pa_cons (pe_d D_hangs (hr.mono (by decide)) hgd (by rfl) passNo (pa_cons (pe_tup pa_nil) pa_nil)) pa_nil))) pa_nil)) (pe_callB (call_repr hgd hr.units) (by rfl) T.n_repr bt_repr (pa_cons (pe_tup (pa_cons (pe_tup pa_nil) (pa_cons pe_bl pa_nil))) pa_nil)) (nomark _)))))), ?_⟩
  refine go_seq (go_asgN (go_cs1 ⟨_, rfl, a, ns, rfl, hS, hl, fun p cc H1 e1 np hp => ?_⟩))
  have T1 : Tabs [(Pt, lamQ)] H1 := hT.ext e1
  dsimp only
  refine go_seq ?_
  refine ⟨(by show 3 ≤ sizeLine; decide), fun l hl => ?_⟩
  have e2 := sameNew (o := HO.lst [V.int 2, V.int 3, V.int 4]) hl
  have l2 : (upd H1 l (.lst [V.int 2, V.int 3, V.int 4])) l = some (.lst [V.int 2, V.int 3, V.int 4]) := upd_same
  generalize upd H1 l (.lst [V.int 2, V.int 3, V.int 4]) = H2 at e2 l2
  refine ⟨l, rfl, ⟨_, SqL.of l2⟩, for_list (K := K) (a := l) (xs := [V.int 2, V.int 3, V.int 4]) (fun i σ' H' => ∃ (o2 o3 o4 o5 o6 o7 o8 o9 o10 o11 o12 o13 : Option V), σ' = [some (.ref a), some (.ref p), o2, o3, o4, o5, o6, o7, o8, o9, o10, o11, o12, o13, none] ∧
    H' l = some (.lst [V.int 2, V.int 3, V.int 4]) ∧ Pen H' p cc (1000 * i) ∧ Tabs [(Pt, lamQ)] H') ?_ ?_ ?_ ?_⟩
  · exact ⟨none, none, none, none, none, none, none, none, none, none, none, none, rfl, l2, hp.same e2, T1.ext e2⟩
  · rintro i σ' H' _ ⟨o2, o3, o4, o5, o6, o7, o8, o9, o10, o11, o12, o13, rfl, h1, h2, h3⟩
    exact SqL.of h1
  · rintro i y σ' H3 hi ⟨o2, o3, o4, o5, o6, o7, o8, o9, o10, o11, o12, o13, rfl, l3, p3, T3⟩
    have hi3 := (List.getElem?_eq_some_iff.mp hi).1
    have hi3 : i < 3 := hi3
    obtain ⟨n, rfl, dn⟩ : ∃ n : Nat, y = V.int (n : Int) ∧ Dm n := by
      match i, hi3, hi with
      | 0, _, h => exact ⟨2, (Option.some.inj h).symm, .inl rfl⟩
      | 1, _, h => exact ⟨3, (Option.some.inj h).symm, .inr (.inl rfl)⟩
      | 2, _, h => exact ⟨4, (Option.some.inj h).symm, .inr (.inr rfl)⟩
    have pM : penMax = 1000000000000 := rfl
    have n4 : n ≤ 4 := by rcases dn with h | h | h <;> rw [h] <;> decide
    refine go_seq (go_asgN ?_)
    refine ⟨_, rfl, _, rfl, p, cc, 1000 * i, n, rfl, p3, by omega, dn, fun a1 S H4 na1 b4 p4 c4 l0 l1 near => ?_⟩
    have T4 := tabs_pen T3 p3 b4
    have l4 := p3.kd b4 _ _ rfl l3
    have nr : ∀ x ∈ S, Near 65000 x ∧ x.length ≤ 4 := fun x hx => ⟨(near x hx).2.mono (by decide), by rw [(near x hx).1]; exact n4⟩
    obtain ⟨_, xs, eq, hxs, hcs⟩ := c4.lst_ref
    cases eq
    have lx := hcs.length
    rw [List.length_map] at lx
    dsimp only
    refine go_seq (go_asgN ?_)
    refine ⟨_, rfl, _, rfl, p, cc, a1, 1000 * i + 200, xs, rfl, p4, by omega, Or.inl hxs, by omega, by omega, fun y H5 hy b5 p5 => ?_⟩
    obtain ⟨c, hc, hyc⟩ := mem_cell hcs hy
    have kd5 := p4.kd b5
    have T5 := tabs_pen T4 p4 b5
    have l5 := kd5 _ _ rfl l4
    have c5 := c4.mono kd5
    have y5 := hyc.mono kd5
    have dc : Dm c.length := by rw [(near c hc).1]; exact dn
    have cn := (nr c hc).1
    dsimp only
    refine go_seq ?_
    have tb : Tells (.tuple ((nbr c).map ceD)) := (fl_cells (fun x hx => ⟨((near c hc).2.nbr dc hx).mono (by decide), by rw [nbr_len dc hx]; exact (nr c hc).2⟩) (by rw [nbr, List.length_map]; rcases dc with h | h | h <;> rw [h] <;> decide)).tells (by decide) (by decide)
    have wc : (ceD c).weight ≤ 90000 := Nat.le_trans (fl_cell cn (nr c hc).2).wt (by decide)
    refine ⟨_, rfl, y, ceD c, rfl, y5, wc, fun c' eq _ u H6 e6 hu => ?_, fun h => by rw [isAny_cell dc] at h; cases h⟩
    obtain rfl := ceD_inj eq
    refine ⟨u, _, rfl, hu, tb, _, rfl, y, c, rfl, y5.same e6, dc, fun q H7 hq e7 hq7 => ?_⟩
    try dsimp only
    refine go_nil ?_
    try dsimp only
    refine tuple_dt hq7 fun v H8 e8 hv => ?_
    refine ⟨v, _, rfl, hv, tb, rfl, _, rfl, ite2 (fun z => absurd z (by simp)) (fun _ => ?_)⟩
    have e58 := (e6.trans e7).trans e8
    have T8 := T5.ext e58
    have l8 := e58 _ _ l5
    have c8 := c5.same e58
    have y8 := y5.same e58
    have p8 := p5.same e58
    clear e6 e7 e8 e58 hv hq7 hq hu T5 l5 c5 y5 p5
    dsimp only [tNext]
    -- the parts
    have dm : ∀ x ∈ S, Dm x.length := fun x hx => by rw [(near x hx).1]; exact dn
    refine go_seq (go_asgN ?_)
    refine ⟨_, rfl, .ref a1, S, rfl, c8, dm, by omega, fun p1 H9 np9 e9 hp1 => ?_⟩
    have T9 := T8.ext e9
    have l9 := e9 _ _ l8
    have c9 := c8.same e9
    have y9 := y8.same e9
    have p9 := p8.same e9
    dsimp only
    refine go_seq (go_asgN ?_)
    refine ⟨_, rfl, _, rfl, ?_⟩
    try dsimp only
    refine go_nil ?_
    try dsimp only
    refine listL_dt c9 fun u1 H10 _ e10 h10 => ?_
    refine ⟨_, rfl, ?_⟩
    try dsimp only
    refine go_nil ?_
    try dsimp only
    refine tuple_dt (c9.same e10) fun u2 H11 e11 h11 => ?_
    refine ⟨(by show 2 ≤ sizeLine; decide), fun q hq => ?_⟩
    have eq12 := sameNew (o := HO.lst [V.ref u1, u2]) hq
    have q12 : (upd H11 q (.lst [V.ref u1, u2])) q = some (.lst [V.ref u1, u2]) := upd_same
    generalize upd H11 q (.lst [V.ref u1, u2]) = H12 at eq12 q12
    have e12 := (e10.trans e11).trans eq12
    refine ⟨p, cc, q, 1000 * i + 200 + 1, _, rfl, p9.same e12, by omega, Or.inl q12, (by show 0 < 2; decide), (by show 2 ≤ 1000000; decide), fun x H13 hx b13 p13 => ?_⟩
    have kd13 := (p9.same e12).kd b13
    have T13 := tabs_pen (T9.ext e12) (p9.same e12) b13
    have l13 := kd13 _ _ rfl (e12 _ _ l9)
    have c13 := (c9.same e12).mono kd13
    have y13 := (y9.same e12).mono kd13
    have P13 := (hp1.same e12).mono kd13
    obtain ⟨pa, px, rfl, hpa, hpx⟩ : ∃ (pa : Addr) (px : List V), x = .ref pa ∧ SqA K H13 pa px ∧ DtAll H13 px (S.map ceD) := by
      simp only [List.mem_cons, List.not_mem_nil, or_false] at hx
      rcases hx with rfl | rfl
      · obtain ⟨pa, px, eq, hpa, hpx⟩ := (((h10.same e11).same eq12).mono kd13).lst_ref
        exact ⟨pa, px, eq, .inl (SqL.of hpa), hpx⟩
      · obtain ⟨pa, px, eq, hpa, hpx⟩ := ((h11.same eq12).mono kd13).tup_ref
        exact ⟨pa, px, eq, .inr (SqT.of hpa), hpx⟩
    have lpx : (S.map ceD).length = S.length := List.length_map _
    have wS : ∀ d ∈ S.map ceD, d.weight ≤ 90000 := fun d hd => by
      obtain ⟨x, hx, rfl⟩ := List.mem_map.mp hd
      exact Nat.le_trans (fl_cell (nr x hx).1 (nr x hx).2).wt (by decide)
    have cS : ∀ (j : Nat) d, j < (S.map ceD).length → (S.map ceD)[j]? = some d → ∃ c : List Int, d = ceD c ∧ c.length = n ∧ Dm n := fun j d _ hd => by
      rw [List.getElem?_map] at hd
      obtain ⟨x, hx, rfl⟩ := Option.map_eq_some_iff.mp hd
      exact ⟨x, rfl, (near x (List.mem_of_getElem? hx)).1, dn⟩
    have tp : Tells (.tuple ((partsC (once S)).map partD)) := (fl_parts nr (by omega)).tells (by decide) (by decide)
    clear e10 e11 eq12 e12 h10 h11 q12 hx b13 kd13 T9 l9 c9 y9 p9 hp1 T8 l8 c8 y8 p8 e9
    dsimp only
    refine go_seq ?_
    refine ⟨_, rfl, pa, px, S.map ceD, n, (S.map ceD).length, rfl, hpa, hpx, wS, by omega, cS, Or.inl ⟨rfl, fun S' eq u H14 e14 hu => ?_⟩⟩
    obtain rfl := cells_inj eq
    refine ⟨u, _, rfl, hu, tp, _, rfl, ?_⟩
    try dsimp only
    refine go_nil ?_
    try dsimp only
    refine tuple_dt (P13.same e14) fun v H15 e15 hv => ?_
    refine ⟨v, _, rfl, hv, tp, rfl, _, rfl, ite2 (fun z => absurd z (by simp)) (fun _ => ?_)⟩
    have e13 := e14.trans e15
    have px5 := hpx.same e13
    refine ⟨_, rfl, pa, px, S.map ceD, n, (S.map ceD).length, rfl, hpa.same e13, hpx.same e13, wS, by omega, cS, Or.inl ⟨rfl, fun S' eq H16 e16 => ?_⟩⟩
    obtain rfl := cells_inj eq
    refine ⟨_, .bool _, rfl, .bl _, tells_bool _, _, rfl, ?_⟩
    try dsimp only
    refine go_nil ?_
    try dsimp only
    refine lenL_dt ((P13.same e13).same e16) ?_
    refine ⟨rfl, _, .bool _, rfl, .bl _, tells_bool _, rfl, _, rfl, ite2 (fun z => absurd z ?_) (fun _ => ?_)⟩
    · have e : decide ((partsC (once S)).length = 1) = decide (V.int ((((partsC (once S)).map partD).length : Nat) : Int) = V.int 1) := by
        rw [List.length_map]
        refine decide_eq_decide.mpr ⟨fun h => by rw [h]; rfl, fun h => ?_⟩
        have := V.int.inj h
        omega
      rw [e]
      simp
    have e17 := e13.trans e16
    dsimp only [tNext]
    -- what was passed stays
    refine go_seq ?_
    refine ⟨_, rfl, pa, px, rfl, hpa.same e17, fun q hq => ?_⟩
    have e18 := sameNew (o := HO.lst px) hq
    have d18 : Dt (upd H16 q (.lst px)) (.ref q) (.list (S.map ceD)) := .lst upd_same ((hpx.same e17).same e18)
    generalize upd H16 q (.lst px) = H17 at e18 d18
    have e18 := e17.trans e18
    refine ⟨_, rfl, _, _, d18, c13.same e18, (cmpr_cells _).shaped, (cmpr_cells _).shaped, _, rfl, ite2 (fun z => absurd z ?_) (fun _ => ?_)⟩
    · rw [eqv_cellsL]
      simp
    have T17 := T13.ext e18
    have l17 := e18 _ _ l13
    have c17 := c13.same e18
    have y17 := y13.same e18
    have p17 := p13.same e18
    clear e13 e14 e15 e16 e17 e18 hv hu d18 hpa hpx px5 T13 l13 c13 y13 P13 p13
    dsimp only [tNext]
    -- an odd value
    refine go_seq ?_
    refine ⟨_, rfl, _, rfl, p, cc, 1000 * i + 202, y, c, rfl, p17, by omega, y17, dc, fun u d H18 b18 p18 ud du => ?_⟩
    have kd18 := p17.kd b18
    have T18 := tabs_pen T17 p17 b18
    have l18 := kd18 _ _ rfl l17
    have c18 := c17.mono kd18
    have y18 := y17.mono kd18
    refine ⟨_, rfl, _, rfl, ?_⟩
    try dsimp only
    refine go_nil ?_
    try dsimp only
    refine lenL_dt c18 ?_
    rw [lpx]
    refine ⟨_, _, rfl, rfl, p, cc, 1000 * i + 203, _, rfl, p18, by omega, by omega, by omega, fun r H19 r0 r1 b19 p19 => ⟨(by show 2 ≤ sizeLine; decide), fun tt htt => ?_⟩⟩
    obtain ⟨at_, rfl⟩ : ∃ k : Nat, r = (k : Int) := ⟨r.toNat, by omega⟩
    have la : at_ ≤ S.length := by omega
    have kd19 := p18.kd b19
    refine ⟨tt, _, rfl, SqT.of upd_same, rfl, _, _, rfl, _, _, rfl, rfl, ?_⟩
    have e20 := sameNew (o := HO.tup [u, V.int (at_ : Int)]) htt
    have T20 := (tabs_pen T18 p18 b19).ext e20
    have l20 := e20 _ _ (kd19 _ _ rfl l18)
    have c20 := (c18.mono kd19).same e20
    have y20 := (y18.mono kd19).same e20
    have u20 := (ud.mono kd19).same e20
    have p20 := p19.same e20
    generalize upd H19 tt (.tup [u, V.int (at_ : Int)]) = H20 at T20 l20 c20 y20 u20 p20
    clear e20 kd19 htt kd18 ud c18 y18 T18 l18 p18 p19 b19 b18 T17 l17 c17 y17 p17
    obtain ⟨⟨tu, uo⟩, uf⟩ := odd_ok cn dc du
    rw [(near c hc).1] at uf
    have wu : d.weight ≤ 90000 := Nat.le_trans tu.wt (by decide)
    try dsimp only
    -- is_cell of each dimension
    refine go_seq (go_asgN ?_)
    refine lc_any2 (b := fun _ => true) (f := fun i => .str (PyData.bool (decide (n = i + 2))).shown) (n := 3) (by decide) (tells2_lst (xs := [V.int 2, V.int 3, V.int 4]) fun Q' q' => ⟨(by show 3 ≤ sizeLine; decide), fun q hq => q' q _ (sameNew hq) (SqL.of upd_same)⟩) ?_ ?_
    · intro i' z H21 lt' e21 hz
      obtain ⟨m, rfl, hm⟩ : ∃ m : Nat, z = V.int ((i' + 2 : Nat) : Int) ∧ dimD (.int ((i' + 2 : Nat) : Int)) = true := by
        match i', lt', hz with
        | 0, _, h => exact ⟨2, (Option.some.inj h).symm, rfl⟩
        | 1, _, h => exact ⟨3, (Option.some.inj h).symm, rfl⟩
        | 2, _, h => exact ⟨4, (Option.some.inj h).symm, rfl⟩
      refine goTo_name ⟨rfl, Same.refl _, et_yes, fun _ => ⟨?_, rfl⟩⟩
      intro H22 e22 Q' q'
      refine ⟨_, rfl, _, rfl, y, _, ceD c, .int ((i' + 2 : Nat) : Int), rfl, (y20.same e21).same e22, wc, .int _, fun k H23 eq _ e23 => ?_, fun h => by rw [hm] at h; cases h⟩
      cases eq
      refine ⟨_, .bool _, rfl, .bl _, tells_bool _, q' _ _ e23 ?_⟩
      rw [isOf_cell, (near c hc).1, show decide ((n : Int) = ((i' + 2 : Nat) : Int)) = decide (n = i' + 2) from decide_eq_decide.mpr (by omega)]
      exact .str _
    intro D21 H21 ys hD21 e21 h21 hys
    rw [told_all] at hys
    have T21 := T20.ext e21
    have l21 := e21 _ _ l20
    have c21 := c20.same e21
    have y21 := y20.same e21
    have u21 := u20.same e21
    have p21 := p20.same e21
    try dsimp only
    refine go_seq ?_
    refine ⟨_, rfl, ?_⟩
    refine lc_any2 (b := fun _ => true) (f := fun i => .str (PyData.bool (decide (n = i + 2))).shown) (n := 3) (by decide) (tells2_lst (xs := [V.int 2, V.int 3, V.int 4]) fun Q' q' => ⟨(by show 3 ≤ sizeLine; decide), fun q hq => q' q _ (sameNew hq) (SqL.of upd_same)⟩) ?_ ?_
    · intro i' z H22 lt' e22 hz
      obtain ⟨m, rfl, hm⟩ : ∃ m : Nat, z = V.int ((i' + 2 : Nat) : Int) ∧ dimD (.int ((i' + 2 : Nat) : Int)) = true := by
        match i', lt', hz with
        | 0, _, h => exact ⟨2, (Option.some.inj h).symm, rfl⟩
        | 1, _, h => exact ⟨3, (Option.some.inj h).symm, rfl⟩
        | 2, _, h => exact ⟨4, (Option.some.inj h).symm, rfl⟩
      refine goTo_name ⟨rfl, Same.refl _, et_yes, fun _ => ⟨?_, rfl⟩⟩
      intro H23 e23 Q' q'
      refine ⟨_, rfl, _, rfl, rfl, _, .bool _, rfl, .bl _, tells_bool _, q' _ _ (Same.refl _) ?_⟩
      rw [show decide (V.int ((i' + 2 : Nat) : Int) = V.int (n : Int)) = decide (n = i' + 2) from decide_eq_decide.mpr ⟨fun h => by have := V.int.inj h; omega, fun h => by rw [h]⟩]
      exact .str _
    intro D22 H22 zs hD22 e22 h22 hzs
    rw [told_all] at hzs
    have cm3 : Cmpr 1 (.list ((List.range 3).map fun i => PyData.str (PyData.bool (decide (n = i + 2))).shown)) := by
      refine Cmpr.lst fun d hd => ?_
      obtain ⟨i, _, rfl⟩ := List.mem_map.mp hd
      cases decide (n = i + 2) <;> exact ⟨by decide +kernel, Nat.zero_le _⟩
    refine ⟨_, _, (Dt.lst h21 hys).same e22, .lst h22 hzs, cm3.shaped, cm3.shaped, _, rfl, ite2 (fun z => absurd z ?_) (fun _ => ?_)⟩
    · have := eqv_strs ((List.range 3).map fun i => (PyData.bool (decide (n = i + 2))).shown)
      rw [List.map_map] at this
      intro z
      have z : (!PyData.eqv (.list ((List.range 3).map fun i => PyData.str (PyData.bool (decide (n = i + 2))).shown)) (.list ((List.range 3).map fun i => PyData.str (PyData.bool (decide (n = i + 2))).shown))) = true := z
      rw [show (PyData.str ∘ fun i => (PyData.bool (decide (n = i + 2))).shown) = fun i => PyData.str (PyData.bool (decide (n = i + 2))).shown from rfl] at this
      rw [this] at z
      cases z
    have T22 := T21.ext e22
    have l22 := e22 _ _ l21
    have c22 := c21.same e22
    have y22 := y21.same e22
    have u22 := u21.same e22
    have p22 := p21.same e22
    clear hys h21 hzs h22 e21 e22 T21 l21 c21 y21 u21 p21 T20 l20 c20 y20 u20 p20
    dsimp only [tNext]
    -- is_cell of the odd value
    refine go_seq ?_
    refine ⟨_, rfl, _, rfl, u, _, d, .int n, rfl, u22, wu, .int _, fun k H23 eq _ e23 => ?_, fun h => ?_⟩
    rotate_left
    · exfalso
      rcases dn with h' | h' | h' <;> rw [h'] at h <;> cases h
    cases eq
    rw [uf]
    refine ⟨_, _, rfl, rfl, _, rfl, ite2 (fun z => absurd z (by simp)) (fun _ => ?_)⟩
    have T23 := T22.ext e23
    have l23 := e23 _ _ l22
    have c23 := c22.same e23
    have y23 := y22.same e23
    have u23 := u22.same e23
    have p23 := p22.same e23
    clear e23 T22 l22 c22 y22 u22 p22
    dsimp only [tNext]
    -- the bent list
    refine go_seq (go_asgN ?_)
    refine ⟨_, rfl, _, rfl, _, rfl, ?_⟩
    refine slL_dt c23 fun q24 H24 n24 e24 h24 => ?_
    rw [cut_to] at h24
    have lt_ : ((S.map ceD).take at_).length = at_ := by rw [List.length_take, lpx]; omega
    have ld_ : ((S.map ceD).drop at_).length = S.length - at_ := by rw [List.length_drop, lpx]
    refine ⟨_, rfl, (by show 1 ≤ sizeLine; decide), fun q25 hq25 => ?_⟩
    have e25 := sameNew (o := HO.lst [u]) hq25
    refine cat_dt (h24.same e25) (es := [d]) (.lst upd_same (.cons ((u23.same e24).same e25) .nil)) (by rw [lt_]; show at_ + 1 ≤ 100000; omega) fun q26 H26 n26 e26 h26 => ?_
    have e26 := (e24.trans e25).trans e26
    refine ⟨_, rfl, _, rfl, _, rfl, ?_⟩
    try dsimp only
    refine go_noPart ?_
    try dsimp only
    refine slL_dt (c23.same e26) fun q27 H27 n27 e27 h27 => ?_
    rw [cut_from] at h27
    refine cat_dt (h26.same e27) h27 (by rw [List.length_append, lt_, ld_]; show at_ + 1 + _ ≤ 100000; omega) fun q28 H28 n28 e28 h28 => ?_
    refine ⟨(by show 1 ≤ sizeLine; decide), fun q29 hq29 => ?_⟩
    have e29 := sameNew (o := HO.lst [V.non]) hq29
    refine cat_dt (h28.same e29) (es := [PyData.none]) (.lst upd_same (.cons .non .nil)) (by rw [List.length_append, List.length_append, lt_, ld_]; show at_ + 1 + _ + 1 ≤ 100000; omega) fun q30 H30 n30 e30 h30 => ?_
    have e30 := (((e26.trans e27).trans e28).trans e29).trans e30
    have lb : (((S.map ceD).take at_ ++ [d] ++ (S.map ceD).drop at_) ++ [PyData.none]).length ≤ 1000 := by
      rw [List.length_append, List.length_append, List.length_append, lt_, ld_]
      show at_ + 1 + _ + 1 ≤ 1000
      omega
    have wb : ∀ e ∈ ((S.map ceD).take at_ ++ [d] ++ (S.map ceD).drop at_) ++ [PyData.none], e.weight ≤ 90000 := fun e he => by
      simp only [List.mem_append, List.mem_singleton] at he
      rcases he with ((he | rfl) | he) | rfl
      · exact wS e (List.mem_of_mem_take he)
      · exact wu
      · exact wS e (List.mem_of_mem_drop he)
      · exact Nat.zero_le _
    have T30 := T23.ext e30
    have l30 := e30 _ _ l23
    have c30 := c23.same e30
    have y30 := y23.same e30
    have u30 := u23.same e30
    have p30 := p23.same e30
    clear h24 h26 h27 h28 e24 e25 e26 e27 e28 e29 T23 l23 c23 y23 u23 p23
    try dsimp only
    refine go_seq (go_asgN ?_)
    have c00 : S[0]? = some S[0] := List.getElem?_eq_getElem l0
    refine go_due rfl rfl rfl u30 wu uo c30 c00 fun dv de H31 e31 hdv hde => ?_
    -- where the error lies
    obtain ⟨nn, kk, f1, f2, f3, f4, f5⟩ : ∃ nn kk : Nat, (∀ (j : Nat) e, j < kk → (((S.map ceD).take at_ ++ [d] ++ (S.map ceD).drop at_) ++ [PyData.none])[j]? = some e → ∃ c : List Int, e = ceD c ∧ c.length = nn ∧ Dm nn) ∧
        (((S.map ceD).take at_ ++ [d] ++ (S.map ceD).drop at_) ++ [PyData.none])[kk]? = some de ∧ (isAny de = false ∨ ∃ c : List Int, de = ceD c ∧ Dm c.length ∧ c.length ≠ nn ∧ 0 < kk) ∧ Tells de ∧ Txt de := by
      have anyc : isAny d = true → ∃ c' : List Int, d = ceD c' ∧ Dm c'.length ∧ c'.length ≠ n := fun h => by
        obtain ⟨c', rfl, hc'⟩ := isAny_iff h
        refine ⟨c', rfl, hc', fun z => ?_⟩
        rw [isOf_cell, z] at uf
        simp at uf
      rcases hde with ⟨rfl, hde⟩ | ⟨rfl, rfl, ha⟩
      · refine ⟨n, at_, fun j e hj he => ?_, ?_, ?_, tu, odd_txt du⟩
        · rw [List.append_assoc, List.append_assoc, List.getElem?_append_left (by rw [lt_]; exact hj), List.getElem?_take_of_lt hj] at he
          exact cS j e (by rw [lpx]; omega) he
        · rw [List.append_assoc, List.append_assoc, List.getElem?_append_right (by rw [lt_]; exact Nat.le_refl _), lt_, Nat.sub_self]
          rfl
        · cases h : isAny de with
          | false => exact .inl rfl
          | true =>
            obtain ⟨c', e1, e2, e3⟩ := anyc h
            rcases hde with hde | hde
            · exact .inr ⟨c', e1, e2, e3, hde⟩
            · rw [h] at hde; cases hde
      · obtain ⟨c', rfl, e2, e3⟩ := anyc ha
        have nS := near S[0] (List.getElem_mem l0)
        refine ⟨c'.length, 1, fun j e hj he => ?_, ?_, .inr ⟨S[0], rfl, by rw [nS.1]; exact dn, by rw [nS.1]; exact Ne.symm e3, by decide⟩, (fl_cell (nr _ (List.getElem_mem l0)).1 (nr _ (List.getElem_mem l0)).2).tells (by decide) (by decide), txt_cell _⟩
        · obtain rfl : j = 0 := by omega
          have he : some (ceD c') = some e := he
          exact ⟨c', (Option.some.inj he).symm, rfl, e2⟩
        · show ((S.map ceD).drop 0 ++ [PyData.none])[0]? = some (ceD S[0])
          rw [List.drop_zero, List.getElem?_append_left (by rw [lpx]; exact l0), List.getElem?_map, c00]
          rfl
    have b31 := h30.same e31
    have T31 := T30.ext e31
    have l31 := e31 _ _ l30
    have y31 := y30.same e31
    have u31 := u30.same e31
    have p31 := p30.same e31
    clear hde h30 T30 l30 c30 y30 u30 p30 e30 e31
    generalize ((S.map ceD).take at_ ++ [d] ++ (S.map ceD).drop at_) ++ [PyData.none] = bd at f1 f2 lb wb b31
    obtain ⟨_, bs, eq, hb, hbs⟩ := b31.lst_ref
    cases eq
    try dsimp only
    -- the refused calls
    refine go_seq (go_asgN ?_)
    refine ⟨T31, fun H32 x32 T32 E' Q' hE hQ => ?_⟩
    have k32 := extN_kd x32
    obtain ⟨dw, hdw, hdw2⟩ := (hbs.mono k32).atD f2
    refine ⟨_, rfl, q30, bs, bd, nn, kk, rfl, Or.inl (SqL.of (k32 _ _ rfl hb)), hbs.mono k32, wb, lb, f1, Or.inr ⟨dw, de, hdw, f2, f3, fun dd H33 ndd e33 hx => hE _ _ _ (Or.inl ⟨rfl, dd, dw, de, rfl, hx, hdw2.same e33, f4, fun r H34 e34 hr34 => ?_⟩)⟩⟩
    have e34 := e33.trans e34
    have k34 : Kd H31 H34 := k32.trans (kdOf e34)
    refine ⟨(by show 1 ≤ sizeLine; decide), fun fd hfd => ?_⟩
    have off := ((p31.ext x32).same e34).off hfd
    have e35 := sameNew (o := HO.lst [r]) hfd
    have f35 : (upd H34 fd (.lst [r])) fd = some (.lst [r]) := upd_same
    generalize upd H34 fd (.lst [r]) = H35 at e35 f35
    have k35 := k34.trans (kdOf e35)
    have T35 := (T32.ext e34).ext e35
    have p35 := ((p31.ext x32).same e34).same e35
    try dsimp only
    refine go_seq (go_drop ?_)
    refine ⟨_, rfl, Or.inl ⟨rfl, _, SqL.of f35⟩, T35, fun H36 x36 T36 E2 Q2 hE2 hQ2 => ?_⟩
    have k36 := k35.trans (extN_kd x36)
    refine ⟨_, rfl, ?_⟩
    try dsimp only
    refine go_nil ?_
    try dsimp only
    refine tuple_dt ((Dt.lst hb hbs).mono k36) fun v37 H37 e37 h37 => ?_
    obtain ⟨pa2, px2, rfl, hpa2, hpx2⟩ := h37.tup_ref
    obtain ⟨dw2, hdw2', hdw3⟩ := hpx2.atD f2
    refine ⟨pa2, px2, bd, nn, kk, rfl, Or.inr (SqT.of hpa2), hpx2, wb, lb, f1, Or.inr ⟨dw2, de, hdw2', f2, f3, fun dd2 H38 ndd2 e38 hx2 => hE2 _ _ _ (Or.inl ⟨rfl, dd2, dw2, de, rfl, hx2, hdw3.same e38, f4, fun r2 H39 e39 hr39 => ?_⟩)⟩⟩
    have e39 := (e37.trans e38).trans e39
    have f39 := e39 _ _ (x36 _ _ f35 (fun _ z => by cases z))
    refine ⟨fd, [r], r2, rfl, rfl, f39, (by show 1 < sizeLine; decide), ?_⟩
    have k40 : Kd H34 (upd H39 fd (.lst ([r] ++ [r2]))) := kd_mut (((kdOf e35).trans (extN_kd x36)).trans (kdOf e39)) hfd
    have T40 : Tabs [(Pt, lamQ)] (upd H39 fd (.lst ([r] ++ [r2]))) := tabs_but (T36.ext e39) f39 (fun _ z => by cases z) (fun _ z => by cases z) But.put
    have p40 : Pen (upd H39 fd (.lst ([r] ++ [r2]))) p cc (1000 * i + 204) := ((p35.ext x36).same e39).upd off
    have L1 : PyData.strOk "cell" = true := ok_of "cell"
    have L2 := f5.ok
    have g40 : Dt (upd H39 fd (.lst ([r] ++ [r2]))) (.ref fd) (.list [.tuple ((["cell", de.shown] : List Str).map PyData.str), .tuple ((["cell", de.shown] : List Str).map PyData.str)]) :=
      .lst upd_same (.cons (hr34.mono k40) (.cons (hr39.tk (tk_l f39) rfl) .nil))
    have l40 := k40 _ _ rfl (k34 _ _ rfl l31)
    have y40 := (y31.mono k34).mono k40
    have u40 := (u31.mono k34).mono k40
    have v40 := (hdv.mono k34).mono k40
    generalize upd H39 fd (.lst ([r] ++ [r2])) = H40 at k40 T40 p40 g40 l40 y40 u40 v40
    clear k40 hr39 hr34 f39 e39 hdw3 hdw2' hpx2 hpa2 h37 k36 T36 x36 p35 T35 k35 f35 e35 off k34 e34 hx hdw2 hdw x32 T32 k32 hE hQ hE2 hQ2
    have cmT : ∀ L : List Str, (∀ x ∈ L, PyData.strOk x = true) → Cmpr 1 (.tuple (L.map PyData.str)) := fun L h => (cmpr_strs L h).2
    have cell2 : ∀ {e : PyData}, Txt e → ∀ x ∈ (["cell", e.shown] : List Str), PyData.strOk x = true := fun h x hx => by
      simp only [List.mem_cons, List.not_mem_nil, or_false] at hx
      rcases hx with rfl | rfl
      · exact ok_of "cell"
      · exact h.ok
    try dsimp only
    refine go_seq ?_
    refine go_ifF (fun H' => Same H40 H') (fun Q' k' => ?_) fun H41 e41 => ?_
    · refine ⟨_, rfl, _, rfl, dv, de, rfl, v40, f4, (by show 2 ≤ sizeLine; decide), fun t ht => ⟨(by show 1 ≤ sizeLine; decide), fun q hq => ⟨q, 2, [.ref t], rfl, rfl, upd_same, by decide, by decide, (by show 2 ≤ sizeLine; decide), fun z hz => ?_⟩⟩⟩
      have e1 := sameNew (o := HO.tup [V.str "cell", V.str de.shown]) ht
      have e2 := (sameNew (o := HO.lst [V.ref t]) hq).trans (sameNew (o := HO.lst (List.replicate (2 : Int).toNat [V.ref t]).flatten) hz)
      have ct : Dt (upd H40 t (.tup [V.str "cell", V.str de.shown])) (.ref t) (.tuple ((["cell", de.shown] : List Str).map PyData.str)) := .tup upd_same (.cons (.str _) (.cons (.str _) .nil))
      have sh := (Cmpr.lst (n := 1) (ds := [.tuple ((["cell", de.shown] : List Str).map PyData.str), .tuple ((["cell", de.shown] : List Str).map PyData.str)]) fun x hx => by
        simp only [List.mem_cons, List.not_mem_nil, or_false] at hx
        rcases hx with rfl | rfl <;> exact cmT _ (cell2 f5)).shaped
      refine ⟨_, _, g40.same (e1.trans e2), .lst upd_same (.cons (ct.same e2) (.cons (ct.same e2) .nil)), sh, sh, _, rfl, ?_⟩
      show Q' (!PyData.eqv _ _) _
      rw [eqv_two]
      exact k' _ (e1.trans e2)
    have T41 := T40.ext e41
    have l41 := e41 _ _ l40
    have y41 := y40.same e41
    have u41 := u40.same e41
    have p41 := p40.same e41
    dsimp only [tNext]
    refine go_seq ?_
    refine go_ifF (fun H' => Kd H41 H' ∧ Tabs [(Pt, lamQ)] H' ∧ Pen H' p cc (1000 * i + 204)) (fun Q' k' => ?_) fun H42 h42 => ?_
    · refine ⟨u, rfl, u, d, rfl, u41, wu, uo, fun H42 e42 => ⟨_, rfl, ?_⟩⟩
      show if (!isAny d) = true then _ else _
      refine ite2 (fun z => ?_) (fun z => k' _ ⟨kdOf e42, T41.ext e42, p41.same e42⟩)
      have z : isAny d = false := by simpa using z
      refine ⟨T41.ext e42, fun H43 x43 T43 E3 Q3 hE3 _ => ?_⟩
      have k43 := (kdOf e42).trans (extN_kd x43)
      refine ⟨u, rfl, u, d, rfl, u41.mono k43, wu, fun c' eq dm' => ?_, fun _ dd H44 ndd e44 hx => hE3 _ _ _ (Or.inl ⟨rfl, dd, u, d, rfl, hx, (u41.mono k43).same e44, tu, fun r3 H45 e45 hr => ?_⟩)⟩
      · rw [eq, isAny_cell dm'] at z
        cases z
      have e45 := e44.trans e45
      refine ⟨u, rfl, u, d, rfl, (u41.mono k43).same e45, tu, (by show 2 ≤ sizeLine; decide), fun t ht => ?_⟩
      have e46 := sameNew (o := HO.tup [V.str "cell", V.str d.shown]) ht
      refine ⟨.tuple ((["cell", d.shown] : List Str).map PyData.str), .tuple ((["cell", d.shown] : List Str).map PyData.str), hr.same e46, .tup upd_same (.cons (.str _) (.cons (.str _) .nil)), (cmT _ (cell2 (odd_txt du))).shaped, (cmT _ (cell2 (odd_txt du))).shaped, _, rfl, ?_⟩
      show Q' (!PyData.eqv _ _) _
      rw [eqv_strT]
      exact k' _ ⟨k43.trans (kdOf (e45.trans e46)), T43.ext (e45.trans e46), ((p41.same e42).ext x43).same (e45.trans e46)⟩
    obtain ⟨k42, T42, p42⟩ := h42
    have l42 := k42 _ _ rfl l41
    have y42 := y41.mono k42
    dsimp only [tNext]
    -- a wrong number
    refine go_seq (go_asgN ?_)
    refine ⟨_, rfl, ?_⟩
    refine ed_lst (eda_cons (ed_c fun _ => .int 0) (eda_cons (ed_c fun _ => .int 1) (eda_cons (ed_c fun _ => .int 5) (eda_cons (d := .int (-2)) (fun H1 _ Q' q' => ⟨2, rfl, q' _ H1 (Same.refl _) (.int _)⟩) (eda_cons (ed_c fun _ => .non) (eda_cons (ed_c fun _ => .bl true) (eda_cons (ed_c fun _ => .str "2")
      (eda_cons (ed_tup (eda_cons (ed_c fun _ => .int 2) eda_nil) (by show 1 ≤ 1000; decide)) (eda_cons (d := .int (10 ^ (20 : Int).toNat)) (fun H1 _ Q' q' => ⟨10, 20, rfl, rfl, ⟨by decide, by decide, by decide⟩, q' _ H1 (Same.refl _) (.int _)⟩) eda_nil))))))))) (by show 9 ≤ 1000; decide)
      H42 (Same.refl _) _ fun uw H43 e43 h43 => ?_
    obtain ⟨wl, ws, rfl, hwl, hws⟩ := h43.lst_ref
    have lws := hws.length
    refine ⟨p, cc, wl, 1000 * i + 204, ws, rfl, p42.same e43, by omega, Or.inl hwl, by rw [lws]; show 0 < 9; decide, by rw [lws]; show 9 ≤ 1000000; decide, fun wv H44 hwv b44 p44 => ?_⟩
    obtain ⟨wd, hwd, wdt⟩ := mem_dt hws hwv
    obtain ⟨⟨tw, xw⟩, nw⟩ := wrong_ok hwd
    have kd44 := (p42.same e43).kd b44
    have T44 := tabs_pen (T42.ext e43) (p42.same e43) b44
    have l44 := kd44 _ _ rfl (e43 _ _ l42)
    have y44 := (y42.same e43).mono kd44
    have w44 := wdt.mono kd44
    try dsimp only
    refine go_ifF (fun H' => Kd H44 H' ∧ Tabs [(Pt, lamQ)] H' ∧ Pen H' p cc (1000 * i + 205)) (fun Q' k' => ?_) fun H45 h45 => ?_
    · refine ⟨T44, fun H45 x45 T45 E4 Q4 hE4 _ => ?_⟩
      have k45 := extN_kd x45
      refine ⟨y, rfl, wv, rfl, y, wv, ceD c, wd, rfl, y44.mono k45, wc, w44.mono k45, fun n' H' eq dm' _ => ?_, fun _ dd H46 ndd e46 hx => hE4 _ _ _ (Or.inr ⟨rfl, dd, wv, wd, rfl, hx, (w44.mono k45).same e46, tw, fun r4 H47 e47 hr => ?_⟩)⟩
      · rw [nw] at dm'
        cases dm'
      have e47 := e46.trans e47
      refine ⟨wv, rfl, wv, wd, rfl, (w44.mono k45).same e47, tw, (by show 3 ≤ sizeLine; decide), fun t ht => ?_⟩
      have e48 := sameNew (o := HO.tup [V.str "number", V.str "dimension", V.str wd.shown]) ht
      have num3 : ∀ x ∈ (["number", "dimension", wd.shown] : List Str), PyData.strOk x = true := fun x hx => by
        simp only [List.mem_cons, List.not_mem_nil, or_false] at hx
        rcases hx with rfl | rfl | rfl
        · exact ok_of "number"
        · exact ok_of "dimension"
        · exact xw.ok
      refine ⟨.tuple ((["number", "dimension", wd.shown] : List Str).map PyData.str), .tuple ((["number", "dimension", wd.shown] : List Str).map PyData.str), hr.same e48, .tup upd_same (.cons (.str _) (.cons (.str _) (.cons (.str _) .nil))), (cmT _ num3).shaped, (cmT _ num3).shaped, _, rfl, ?_⟩
      show Q' (!PyData.eqv _ _) _
      rw [eqv_strT]
      exact k' _ ⟨k45.trans (kdOf (e47.trans e48)), T45.ext (e47.trans e48), (p44.ext x45).same (e47.trans e48)⟩
    obtain ⟨k45, T45, p45⟩ := h45
    exact ⟨_, _, _, _, _, _, _, _, _, _, _, _, rfl, k45 _ _ rfl l44, p45.le (by omega), T45⟩
  · rintro σ' H3 ⟨o2, o3, o4, o5, o6, o7, o8, o9, o10, o11, o12, o13, rfl, l3, p3, T3⟩
    try dsimp only
    refine go_ret ?_
    have vac : ∀ (j : Nat) (d : PyData), j < 0 → ([] : List PyData)[j]? = some d → ∃ c : List Int, d = ceD c ∧ c.length = 2 ∧ Dm 2 := fun j d h => absurd h (Nat.not_lt_zero j)
    refine ⟨(by show 0 ≤ sizeLine; exact Nat.zero_le _), fun q hq => ⟨q, [], [], 2, 0, rfl, Or.inl (SqL.of upd_same), .nil, (fun d hd => by cases hd), (by show 0 ≤ 1000; decide), vac, Or.inl ⟨rfl, fun S eq u H4 e4 hu => ?_⟩⟩⟩
    obtain rfl : S = [] := by
      cases S with
      | nil => rfl
      | cons a b => cases eq
    refine ⟨(by show 0 ≤ sizeLine; exact Nat.zero_le _), fun q2 hq2 => ⟨q2, [], [], 2, 0, rfl, Or.inr (SqT.of upd_same), .nil, (fun d hd => by cases hd), (by show 0 ≤ 1000; decide), vac, Or.inl ⟨rfl, fun S eq H5 e5 => ?_⟩⟩⟩
    obtain rfl : S = [] := by
      cases S with
      | nil => rfl
      | cons a b => cases eq
    have pz : partsC (once []) = [] := List.eq_nil_of_length_eq_zero (Nat.le_zero.mp (Nat.le_trans (parts_len _) (once_len [])))
    have dz : decide ((partsC (once [])).length = 1) = false := by rw [pz]; rfl
    rw [pz] at hu
    rw [dz]
    refine ⟨(by show 2 ≤ sizeLine; decide), fun t ht => ?_⟩
    have te : Tells (.tuple [.tuple [], .bool false]) := ⟨rfl, .inl rfl, rfl, by decide, by decide⟩
    have hu5 : Dt H5 u (.tuple []) := (hu.same (sameNew hq2)).same e5
    refine ⟨_, _, rfl, .tup upd_same (.cons (hu5.same (sameNew ht)) (.cons (.bl _) .nil)), te, ?_⟩
    refine ⟨(by show 0 ≤ sizeLine; exact Nat.zero_le _), fun t2 ht2 => ⟨(by show 2 ≤ sizeLine; decide), fun t3 ht3 => ?_⟩⟩
    refine ⟨_, .tuple [.tuple [], .bool false], rfl, .tup upd_same (.cons ((Dt.tup upd_same .nil : Dt _ (.ref t2) (.tuple [])).same (sameNew ht3)) (.cons (.bl _) .nil)), te, rfl, ?_⟩
    have e : decide (V.str (PyData.tuple [.tuple [], .bool false]).shown = V.str (PyData.tuple [.tuple [], .bool false]).shown) = true := decide_eq_true rfl
    show Q (.bl (decide (V.str (PyData.tuple [.tuple [], .bool false]).shown = V.str (PyData.tuple [.tuple [], .bool false]).shown))) _
    rw [e]
    exact fin _
end
end K01

namespace K01
open PySem PySem.Spec
open PyProof.Rows hiding St
open L2 Cl
/-! ### the head -/
def fn0 : List He.DefD := [topD "is_whole" (top 4), topD "is_of" (top 7), topD "is_cell" (top 8), topD "is_any" (top 9), topD "added" (top 10), topD "around" (top 11), topD "beside" (top 12), topD "taken_part" (top 13), topD "parts_in" (top 14), topD "check_cells" (top 15), topD "parts_of" (top 16), topD "hangs" (top 17), topD "_law_pen" (top 19), topD "_law_draw" (top 20), topD "_law_pick" (top 21), topD "_law_around" (top 22), topD "_law_plus" (top 23), topD "_law_spread" (top 24), topD "_law_dict" (top 25), topD "_law_parts" (top 26), topD "_law_grown" (top 27), topD "_law_turned" (top 28), topD "_law_odd" (top 29), topD "_law_any" (top 30), topD "_law_refused" (top 31), topD "_law_lot" (top 32), topD "law" (top 33), metD "BadNumber" "__init__" "BadNumber.__init__" (inClass (top 2) 0), metD "BadCell" "__init__" "BadCell.__init__" (inClass (top 3) 0)]
def fn : List He.DefD := fn0
def fa0 : List He.Fa := [.glo "is_whole", .glo "is_of", .glo "is_cell", .glo "is_any", .glo "added", .glo "around", .glo "beside", .glo "taken_part", .glo "parts_in", .glo "check_cells", .glo "parts_of", .glo "hangs", .glo "_law_pen", .glo "_law_draw", .glo "_law_pick", .glo "_law_around", .glo "_law_plus", .glo "_law_spread", .glo "_law_dict", .glo "_law_parts", .glo "_law_grown", .glo "_law_turned", .glo "_law_odd", .glo "_law_any", .glo "_law_refused", .glo "_law_lot", .glo "law", .free "isinstance", .free "int", .free "bool"]
def fa1 : List He.Fa := [.free "tuple", .free "len", .free "all", .free "zip", .free "sorted", .free "list", .free "range", .free "repr", .free "dict", .glo "STEPS", .glo "BadNumber", .noat "BadNumber" "what", .noat "BadNumber" "number", .meth "BadNumber" "__init__", .glo "BadCell", .noat "BadCell" "cell", .meth "BadCell" "__init__"]
def fa : List He.Fa := fa0 ++ fa1
def stepsB (K : PySem.W.Frag) (n : Nat) : Bool := tupAt K (stepA K n) ((List.range (stp n).length).map fun i => V.ref (stepI K n i)) && ((List.range (stp n).length).all fun i => tupAt K (stepI K n i) (((stp n).getD i []).map V.int))
/-- the rest that is asked of the written part -/
def exB (K : PySem.W.Frag) : Bool :=
  (ecB K (He.ga K "BadNumber") && ecB K (He.ga K "BadCell")) && ((kIntD K (He.ga K "STEPS") [(2, stepA K 2), (3, stepA K 3), (4, stepA K 4)] && (stepsB K 2 && (stepsB K 3 && stepsB K 4))) &&
  (decide (PySem.W.exmOne K (.ref (He.ga K "BadCell")) (.ref (He.ga K "BadCell")) = some true) && (decide (PySem.W.exmOne K (.ref (He.ga K "BadNumber")) (.ref (He.ga K "BadCell")) = some false) &&
  decide (PySem.W.exmOne K (.ref (He.ga K "BadNumber")) (.ref (He.ga K "BadNumber")) = some true))))
theorem steps_ok {K : PySem.W.Frag} {n : Nat} (h : stepsB K n = true) : tupAt K (stepA K n) ((List.range (stp n).length).map fun i => V.ref (stepI K n i)) = true ∧ ∀ i s, (stp n)[i]? = some s → tupAt K (stepI K n i) (s.map V.int) = true := by
  obtain ⟨h1, h2⟩ := He.ba h
  refine ⟨h1, fun i s hs => ?_⟩
  have lt := (List.getElem?_eq_some_iff.mp hs).1
  have g := List.all_eq_true.mp h2 i (List.mem_range.mpr lt)
  have e : (stp n).getD i [] = s := by rw [List.getD_eq_getElem?_getD, hs]; rfl
  rw [e] at g
  exact g
def tf : List He.Defn := [("law", none)]
theorem tx_of {w : World} {K : PySem.W.Frag} {h h' : Heap} {mg : Str → Option Value} (c : He.SaysX fa fn [] tf exB w h' K) (X : K.In h) (G : h.Ns mainGlobals mg) : Tx K mg := by
  have d := c.t.d
  obtain ⟨x1, x2⟩ := He.ba c.more
  obtain ⟨x1, x1'⟩ := He.ba x1
  obtain ⟨x2, x3⟩ := He.ba x2
  obtain ⟨s0, s2⟩ := He.ba x2
  obtain ⟨s2, s3⟩ := He.ba s2
  obtain ⟨s3, s4⟩ := He.ba s3
  obtain ⟨y1, y2⟩ := He.ba x3
  obtain ⟨y2, y3⟩ := He.ba y2
  have st : ∀ n, Dm n → stepsB K n = true := fun n hn => by rcases hn with rfl | rfl | rfl <;> assumption
  exact {
    n_isinstance := He.free_ok X G (d.fact 27 rfl)
    n_int := He.free_ok X G (d.fact 28 rfl)
    n_bool := He.free_ok X G (d.fact 29 rfl)
    n_tuple := He.free_ok X G (d.fact 30 rfl)
    n_len := He.free_ok X G (d.fact 31 rfl)
    n_all := He.free_ok X G (d.fact 32 rfl)
    n_zip := He.free_ok X G (d.fact 33 rfl)
    n_sorted := He.free_ok X G (d.fact 34 rfl)
    n_list := He.free_ok X G (d.fact 35 rfl)
    n_range := He.free_ok X G (d.fact 36 rfl)
    n_repr := He.free_ok X G (d.fact 37 rfl)
    n_dict := He.free_ok X G (d.fact 38 rfl)
    g_STEPS := He.glo_ok X G (d.fact 39 rfl)
    k_STEPS := s0
    k_A := fun n hn => (steps_ok (st n hn)).1
    k_I := fun n hn => (steps_ok (st n hn)).2
    x_cc := of_decide_eq_true y1
    x_nc := of_decide_eq_true y2
    x_nn := of_decide_eq_true y3
    g_BadNumber := He.glo_ok X G (d.fact 40 rfl)
    ec_BadNumber := ecB_ok x1
    no_BadNumber_what := He.eqO_ok (d.fact 41 (f := .noat "BadNumber" "what") rfl)
    no_BadNumber_number := He.eqO_ok (d.fact 42 (f := .noat "BadNumber" "number") rfl)
    in_BadNumber := met_of d 27 43 rfl rfl fun F => F.bindsN fun _ _ _ _ _ _ us hl => match us, hl with | [_, _, _], _ => rfl
    g_BadCell := He.glo_ok X G (d.fact 44 rfl)
    ec_BadCell := ecB_ok x1'
    no_BadCell_cell := He.eqO_ok (d.fact 45 (f := .noat "BadCell" "cell") rfl)
    in_BadCell := met_of d 28 46 rfl rfl fun F => F.bindsN fun _ _ _ _ _ _ us hl => match us, hl with | [_, _], _ => rfl }
abbrev R : PySem.W.OpenRow := PySem.W.OpenLaw.row PySem.Challenge.rw_clamberhouse_k01_cells
abbrev hk : PySem.W.Hook := He.hookX 6 fa fn [] tf exB
def ob (s : PySem.W.SharedT) : He.AlX := He.obsX 6 fa fn [] tf exB (HandSHeadRun.getT s)
theorem ob_eq (s : PySem.W.SharedT) : ob s = hk.obs s.abs := He.obsX_eq (HandSHeadRun.getT_eq s)
def loose : List Str := ["ClimbError", "BadNumber", "BadCell", "is_whole", "is_of", "is_cell", "is_any", "added", "around", "beside", "taken_part", "parts_in", "check_cells", "parts_of", "hangs", "_law_pen", "_law_draw", "_law_pick", "_law_around", "_law_plus", "_law_spread", "_law_dict", "_law_parts", "_law_grown", "_law_turned", "_law_odd", "_law_any", "_law_refused", "_law_lot", "STEPS"]
theorem run0 (w : World) : HandSHeadRun.RunEq R (PySem.W.view R.prog [33]) hk ob 20000 loose (w.withFollow "special-get-raises" false) := by
  intro os
  kernel_rfl
theorem run1 (w : World) : HandSHeadRun.RunEq R (PySem.W.view R.prog [33]) hk ob 20000 loose (w.withFollow "special-get-raises" true) := by
  intro os
  kernel_rfl
theorem run (w : World) : HandSHeadRun.RunEq R (PySem.W.view R.prog [33]) hk ob 20000 loose w :=
  PySem.W.byRow2 "special-get-raises" (P := fun w => HandSHeadRun.RunEq R (PySem.W.view R.prog [33]) hk ob 20000 loose w) run0 run1 w
theorem facts {P : Program} {w : World} {K : PySem.W.Frag} {h h' : Heap} {mg : Str → Option Value} {f : Addr} (X : K.In h) (G : h.Ns mainGlobals mg) (hfa : mg ("law" : Str) = some (.ref f)) (sx : He.SaysX fa fn [] tf exB w h' K) :
    ∃ fd : FuncData, (∀ (s : Shared) (v : Value), BindsTo s fd ⟨[v], []⟩ [("script", v)]) ∧ ∀ base : Heap, K.In base → base.Ns mainGlobals mg → LamX.TabB base mg (He.codeOf K ("law", none)) (He.cT K ("law", none)).2 → FnG P w K mg base 9 f fd ["script"] (spLaw K (He.cT K ("law", none)).2) := by
  have T := tx_of sx X G
  have c := sx.t.d
  obtain ⟨fd, F⟩ := c.def_ 26 (d := topD "law" (top 33)) rfl
  have e := hfa.symm.trans (He.glo_ok X G (c.fact 26 (f := .glo "law") rfl))
  cases e
  have b := FunD.bindsA (ps := ["script"]) F fun _ _ _ _ _ _ us hl => match us, hl with | [_], _ => rfl
  refine ⟨fd, fun s v => b s [v] rfl, fun base _ _ TB => ?_⟩
  have D_is_whole : Def P w K mg base "is_whole" 1 _ _ := ok_is_whole T (top_of c X G 0 0 rfl rfl fun F => F.bindsN fun _ _ _ _ _ _ us hl => match us, hl with | [_], _ => rfl)
  have D_is_of : Def P w K mg base "is_of" 2 _ _ := ok_is_of T (top_of c X G 1 1 rfl rfl fun F => F.bindsN fun _ _ _ _ _ _ us hl => match us, hl with | [_, _], _ => rfl) D_is_whole
  have D_is_cell : Def P w K mg base "is_cell" 3 _ _ := ok_is_cell T (top_of c X G 2 2 rfl rfl fun F => F.bindsN fun _ _ _ _ _ _ us hl => match us, hl with | [_, _], _ => rfl) D_is_whole D_is_of
  have D_is_any : Def P w K mg base "is_any" 3 _ _ := ok_is_any T (top_of c X G 3 3 rfl rfl fun F => F.bindsN fun _ _ _ _ _ _ us hl => match us, hl with | [_], _ => rfl) D_is_of
  have D_added : Def P w K mg base "added" 1 _ _ := ok_added T (top_of c X G 4 4 rfl rfl fun F => F.bindsN fun _ _ _ _ _ _ us hl => match us, hl with | [_, _], _ => rfl)
  have D_around : Def P w K mg base "around" 2 _ _ := ok_around T (top_of c X G 5 5 rfl rfl fun F => F.bindsN fun _ _ _ _ _ _ us hl => match us, hl with | [_], _ => rfl) D_added
  have D_beside : Def P w K mg base "beside" 4 _ _ := ok_beside T (top_of c X G 6 6 rfl rfl fun F => F.bindsN fun _ _ _ _ _ _ us hl => match us, hl with | [_], _ => rfl) D_is_any D_around
  have D_taken_part : Def P w K mg base "taken_part" 3 _ _ := ok_taken_part T (top_of c X G 7 7 rfl rfl fun F => F.bindsN fun _ _ _ _ _ _ us hl => match us, hl with | [_, _], _ => rfl) D_around
  have D_parts_in : Def P w K mg base "parts_in" 4 _ _ := ok_parts_in T (top_of c X G 8 8 rfl rfl fun F => F.bindsN fun _ _ _ _ _ _ us hl => match us, hl with | [_], _ => rfl) D_taken_part
  have D_check_cells : Def P w K mg base "check_cells" 4 _ _ := ok_check_cells T (top_of c X G 9 9 rfl rfl fun F => F.bindsN fun _ _ _ _ _ _ us hl => match us, hl with | [_], _ => rfl) D_is_any
  have D_parts_of : Def P w K mg base "parts_of" 5 _ _ := ok_parts_of T (top_of c X G 10 10 rfl rfl fun F => F.bindsN fun _ _ _ _ _ _ us hl => match us, hl with | [_], _ => rfl) D_check_cells D_parts_in
  have D_hangs : Def P w K mg base "hangs" 6 _ _ := ok_hangs T (top_of c X G 11 11 rfl rfl fun F => F.bindsN fun _ _ _ _ _ _ us hl => match us, hl with | [_], _ => rfl) D_parts_of
  have D_law_pen : Def P w K mg base "_law_pen" 1 _ _ := ok_law_pen T (top_of c X G 12 12 rfl rfl fun F => F.bindsN fun _ _ _ _ _ _ us hl => match us, hl with | [_], _ => rfl)
  have D_law_draw : Def P w K mg base "_law_draw" 1 _ _ := ok_law_draw T (top_of c X G 13 13 rfl rfl fun F => F.bindsN fun _ _ _ _ _ _ us hl => match us, hl with | [_, _], _ => rfl)
  have D_law_pick : Def P w K mg base "_law_pick" 2 _ _ := ok_law_pick T (top_of c X G 14 14 rfl rfl fun F => F.bindsN fun _ _ _ _ _ _ us hl => match us, hl with | [_, _], _ => rfl) D_law_draw
  have D_law_around : Def P w K mg base "_law_around" 1 _ _ := ok_law_around T (top_of c X G 15 15 rfl rfl fun F => F.bindsN fun _ _ _ _ _ _ us hl => match us, hl with | [_], _ => rfl)
  have D_law_plus : Def P w K mg base "_law_plus" 1 _ _ := ok_law_plus T (top_of c X G 16 16 rfl rfl fun F => F.bindsN fun _ _ _ _ _ _ us hl => match us, hl with | [_, _], _ => rfl)
  have D_law_dict : Def P w K mg base "_law_dict" 1 _ _ := ok_law_dict T (top_of c X G 18 18 rfl rfl fun F => F.bindsN fun _ _ _ _ _ _ us hl => match us, hl with | [_], _ => rfl)
  have D_law_spread : Def P w K mg base "_law_spread" 2 _ _ := ok_law_spread T (top_of c X G 17 17 rfl rfl fun F => F.bindsN fun _ _ _ _ _ _ us hl => match us, hl with | [_, _], _ => rfl) D_law_around
  have D_law_parts : Def P w K mg base "_law_parts" 3 _ _ := ok_law_parts T (top_of c X G 19 19 rfl rfl fun F => F.bindsN fun _ _ _ _ _ _ us hl => match us, hl with | [_], _ => rfl) D_law_dict D_law_spread
  have D_law_any : Def P w K mg base "_law_any" 1 _ _ := ok_law_any T (top_of c X G 23 23 rfl rfl fun F => F.bindsN fun _ _ _ _ _ _ us hl => match us, hl with | [_], _ => rfl)
  have D_law_grown : Def P w K mg base "_law_grown" 3 _ _ := ok_law_grown T (top_of c X G 20 20 rfl rfl fun F => F.bindsN fun _ _ _ _ _ _ us hl => match us, hl with | [_, _, _], _ => rfl) D_law_pick D_law_around
  have D_law_turned : Def P w K mg base "_law_turned" 3 _ _ := ok_law_turned T (top_of c X G 21 21 rfl rfl fun F => F.bindsN fun _ _ _ _ _ _ us hl => match us, hl with | [_, _], _ => rfl) D_law_draw D_law_pick
  have D_law_odd : Def P w K mg base "_law_odd" 3 _ _ := ok_law_odd T (top_of c X G 22 22 rfl rfl fun F => F.bindsN fun _ _ _ _ _ _ us hl => match us, hl with | [_, _], _ => rfl) D_law_pick
  have D_law_lot : Def P w K mg base "_law_lot" 4 _ _ := ok_law_lot T (top_of c X G 25 25 rfl rfl fun F => F.bindsN fun _ _ _ _ _ _ us hl => match us, hl with | [_, _], _ => rfl) D_law_draw D_law_pick D_law_plus D_law_grown D_law_turned
  exact ok_law T F TB D_law_pen D_law_draw D_law_pick D_law_lot D_law_around D_law_parts D_law_odd D_law_any D_beside D_parts_of D_hangs D_is_cell (top_of c X G 24 24 rfl rfl fun F => F.bindsN fun _ _ _ _ _ _ us hl => match us, hl with | [_], _ => rfl)
end K01
theorem PySem.Challenge.cw_clamberhouse_k01_cells_holds : PySem.Challenge.rw_clamberhouse_k01_cells.Holds := by
  w_on; o_law
  refine HandSHeadRun.head_any (r := PySem.W.OpenLaw.row PySem.Challenge.rw_clamberhouse_k01_cells) (q := PySem.W.view (PySem.W.OpenLaw.row PySem.Challenge.rw_clamberhouse_k01_cells).prog [33]) (H := K01.hk) (ob := K01.ob) (M := 20000) (loose := K01.loose) (d := HandSHeadRun.topDef (PySem.W.OpenLaw.row PySem.Challenge.rw_clamberhouse_k01_cells).prog 33) (kwd := []) K01.ob_eq
    (by kernel_rfl) (fun s => by kernel_rfl) K01.run (by kernel_rfl) (by kernel_rfl) (by kernel_rfl) (by rfl) (by first | assumption | decide +kernel) (by decide +kernel) ⟨rfl, rfl, rfl, rfl, rfl, by decide +kernel⟩ ?hw ?hc
  case hw => w_witness2
  case hc =>
    refine Cl.walk_gT (l := PySem.Challenge.rw_clamberhouse_k01_cells) (n := 63) (k := 9) (x := "script") rfl (by decide) (by kernel_rfl) ⟨rfl, by decide, by decide⟩ ?F
    intro w mg fa h Y G hmg0
    obtain ⟨K, KX, c⟩ := Y
    have hmg : mg ("law" : PySem.Str) = some (.ref fa) := by
      have e : (HandSHeadRun.topDef (PySem.W.OpenLaw.row PySem.Challenge.rw_clamberhouse_k01_cells).prog 33).name = ("law" : PySem.Str) := by kernel_rfl
      rw [← e]
      exact hmg0
    obtain ⟨fd, hb, hF⟩ := K01.facts (P := (PySem.Challenge.rw_clamberhouse_k01_cells).prog) (w := w) KX G hmg c
    have pm : (("law", none) : He.Defn) ∈ K01.tf := List.mem_cons_self
    refine ⟨K, fd, K01.spLaw K (He.cT K ("law", none)).2, [He.cT K ("law", none)], KX, fun p hp => ?_, fun p hp => ?_, fun p hp => ?_, hb, fun H a ns hl hN hS => ⟨a, ns, rfl, hS, hl, fun p hp => ?_, fun _ => rfl⟩, fun base hK hn hT => hF base hK hn (hT _ List.mem_cons_self)⟩
    · rw [List.mem_singleton.mp hp]; exact c.empty _ pm
    · rw [List.mem_singleton.mp hp]; exact c.out _ pm
    · rw [List.mem_singleton.mp hp]; exact PySem.W.codeHd_of_K KX (c.hd _ pm)
    · rw [List.mem_singleton.mp hp]; exact LamX.TabS.nil (hN _ List.mem_cons_self)

