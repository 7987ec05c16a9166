import PyProof.Rows.All
import Wide.All
import OpenK.AllK
import Wide.FinOn
import PyProof.EqAt
import PyProof.EqKinds
import PyProof.TupleCall
import HandS.ForMost
import HandS.Exc
import HandS.HeadEnd
import HandS.Defaults
import KE.KSuper
import HandS.Nested
import HandS.ClsMeth
import HandS.IsInst
import HandS.OwnEq
import KE.KCallOwn
import KE.KFmtOwn
import PyProof.InstEq
import HandS.Star
import HandS.MakeKwOnly
import HandS.Property
import HandS.HeadNt
import HandS.HeadHook1
import HandS.HeadHook2
import HandS.HeadHook3
import HandS.HeadHook4
import HandS.Head0
import HandS.Head1
import HandS.Head2
import HandS.Deep
import PyProof.ReprRoads
import HandS.ExcInit
import HandS.ExcIs
import HandS.ExcOwn
import HandS.ExcValue
import HandS.Evl
import HandS.WordsExc
import HandS.RaiseMore
import HandS.ExcBuiltin
import HandS.ExcField
import KE.KOpsOwn
import HandS.Lambda
import HandS.EndTab
import HandS.DictEq
import KE.KStateDown
import Lean
import HandS.Flow
import HandS.TryOnly
import HandS.Zip
import HandS.Wide
import HandS.TupAny
import HandS.TupMul
import HandS.FStr
import HandS.StrMore
import HandS.MakeKw
import HandS.Conv
import HandS.Codes
import HandS.Replace
import PyProof.ReprBulk
import PyProof.EnumMake
import PyProof.Draws
import KE.GoesMore
import HandS.Text
import HandS.Style
import HandS.List
import PyProof.FString5
import PyProof.FString3
import PyProof.Rows.StrIntSpec
import PyProof.FactsAll.int_2
import PySem.Challenge.RW_tenantcuts_k46_crossings_made
set_option Elab.async false
set_option linter.all false
set_option maxRecDepth 100000
section
set_option maxHeartbeats 4000000
/-! Defs that are called where no repr is under way (guards = some []): a promise that knows it. -/
namespace Tx
open PySem PySem.Spec PyProof.Rows L2
/-- the promise of a def, called where no repr is under way -/
structure FnG (P : Program) (w : World) (K : PySem.W.Frag) (mg : Str → Option Value) (base : Heap) (CX : CXT) (k : Nat) (f : Addr) (fd : FuncData) (ps : List Str) (sp : Sp) : Prop where
  len : ∀ vs H Q E, sp vs H Q E → vs.length = ps.length
  run : ∀ (A : Around) (outer : List Env) (s : Shared) (H : Hp) (args : Args) (us : List Value) (vs : List V) (Q : VK) (E : XK), A.guards = some [] → Room k A → Env0 P w K mg base A outer s H →
    BindsTo s fd args (ps.zip us) → Vals vs us → sp vs H Q E → codeAny (model P w) A (.call (.ref f) args) (CR CX outer P w H s Q E) s
theorem FnG.of_ok {P : Program} {w : World} {K : PySem.W.Frag} {mg : Str → Option Value} {base : Heap} {CX : CXT} {k : Nat} {f : Addr} {fd : FuncData} {ps : List Str} {sp : Sp} (F : FnOk P w K mg base CX k f fd ps sp) : FnG P w K mg base CX k f fd ps sp :=
  ⟨F.len, fun A outer s H args us vs Q E _ => F.run A outer s H args us vs Q E⟩
section
variable {P : Program} {w : World} {K : PySem.W.Frag} {mg : Str → Option Value} {base : Heap} {CX : CXT}
/-- one call of a def of the text, by the reading of its body at this very entry -/
theorem run_def {x qual : Str} {st : Stmt} {f : Addr} {fd : FuncData} {N ps : List Str} {k : Nat} (F : Fun K x qual st f fd) (S : FnScope N ps (defScope st)) {A : Around} {outer : List Env} {s : Shared} {H : Hp} {args : Args} {us : List Value} {vs : List V} {Q : VK} {E : XK}
    (room : Room (k + 1) A) (env0 : Env0 P w K mg base A outer s H) (bnd : BindsTo s fd args (ps.zip us)) (rel : Vals vs us) (hlen : vs.length = ps.length)
    (body : ∀ cdv : Value, ∃ t, PSs (cxOf CX P w K mg base N qual (defScope st) f cdv A outer s H E) (defBody st) t ∧ t { nx := fun _ H' => Q .non H', rt := Q } (start N vs) H) :
    codeAny (model P w) A (.call (.ref f) args) (CR CX outer P w H s Q E) s := by
  obtain ⟨oc, od, kV, doc, pm, an, cdv, ct, osl, rfl, look, code⟩ := F.ex
  obtain ⟨t, derived, reading⟩ := body cdv
  have inHeap : K.In s.heap := env0.mod.kin.keeps fun b o e => (env0.bs b o e).1
  refine codeAny_call_function room.depth (inHeap _ _ look) rfl S.co S.gen rfl (PySem.W.codeRec_of inHeap code) (bnd _ _ _ _ ?_)
  refine wpAny_newFunctionEnv_cells S.kind (fun y hy => ?_) fun env same s1 entered => ?_
  · rcases S.par y.1 (List.of_mem_zip hy).1 with loc | cel
    · exact Or.inl loc
    · exact Or.inr ⟨cel, PySem.W.cellsFrom_some _ _ _ (Or.inl cel)⟩
  · subst same
    refine ⟨(env0.mod.nolimit.keeps fun b o e => (env0.bs b o e).1).keeps entered.toInCall.keep, codeAny_func ?_⟩
    refine wpAny_mono (derived.run [] s1 (start N vs) H _ (inv_start S room.hd env0 hlen rel entered) reading) (fun flow s' ended => ?_) fun _ _ left => left
    cases flow with
    | ret u =>
      obtain ⟨v, σ', H', inv, rv, q⟩ := ended
      exact ⟨v, H', inv.os, inv.bare, inv.base, inv.hok, rv, q⟩
    | next =>
      obtain ⟨σ', H', inv, q⟩ := ended
      exact ⟨V.non, H', inv.os, inv.bare, inv.base, inv.hok, rfl, q⟩
    | brk =>
      obtain ⟨_, _, _, q⟩ := ended
      exact q.elim
    | cont =>
      obtain ⟨_, _, _, q⟩ := ended
      exact q.elim
/-- THE RULE for such a def -/
theorem FnG.of {x qual : Str} {st : Stmt} {f : Addr} {fd : FuncData} {N ps : List Str} {k : Nat} {sp : Sp} (F : Fun K x qual st f fd) (S : FnScope N ps (defScope st)) (len : ∀ vs H Q E, sp vs H Q E → vs.length = ps.length)
    (body : ∀ (cdv : Value) (A : Around) (outer : List Env) (s : Shared) (H : Hp) (vs : List V) (Q : VK) (E : XK), A.guards = some [] → Room k (A.deeper (envOfC qual (defScope st) s.heap.objs.size f cdv)) → sp vs H Q E →
      ∃ t, PSs (cxOf CX P w K mg base N qual (defScope st) f cdv A outer s H E) (defBody st) t ∧ t { nx := fun _ H' => Q .non H', rt := Q } (start N vs) H) : FnG P w K mg base CX (k + 1) f fd ps sp :=
  ⟨len, fun A outer s H args us vs Q E gd room env0 bnd rel hsp => run_def F S room env0 bnd rel (len _ _ _ _ hsp) fun cdv => body cdv A outer s H vs Q E gd (room.deeper _) hsp⟩
end
section
variable {X : Cx} {CX : CXT} {k : Nat} {f : Addr} {fd : FuncData} {ps : List Str} {sp : Sp} {dvs : List V} {ds : List Value} {E : XK} {x : Str} {p pos : Pos} {e : Expr} {es : List Expr} {t : TA}
theorem run_g {pins : List (Addr × Obj)} {σ : L2.St} {H : Hp} {s : Shared} {Q : VK} {us : List Value} {vs : List V} (F : FnG X.prog X.w X.K X.mg X.base CX k f fd ps sp) (gd : X.A.guards = some []) (room : Room k X.A) (bnd : Binds X.K fd ps ds) (dfl : Vals dvs ds) (pas : Passes CX X E)
    (I : Inv X pins σ H s) (rel : Vals vs us) (h : sp (vs ++ dvs) H Q E) : wpAny (model X.prog X.w) X.A (call (.ref f) us) (EP X pins σ Q) X.xe s := by
  have rel2 : Vals (vs ++ dvs) (us ++ ds) := rel.append dfl
  have hl : (us ++ ds).length = ps.length := by
    rw [← rel2.length]
    exact F.len _ _ _ _ h
  refine wpAny_call (codeAny_mono (F.run X.A X.stack s H ⟨us, []⟩ (us ++ ds) (vs ++ dvs) Q E gd room I.env0 (bnd s us I.kIn hl) rel2 h) fun res s' got => ?_)
  rcases res with err | flow
  · exact pas pins σ H s err s' I got
  · cases flow with
    | ret u => exact I.after got
    | next => exact got.elim
    | brk => exact got.elim
    | cont => exact got.elim
/-- f(e, ..), f such a def -/
theorem pe_callG (F : FnG X.prog X.w X.K X.mg X.base CX k f fd ps sp) (gd : X.A.guards = some []) (room : Room k X.A) (hg : Gl X x) (hm : X.mg x = some (.ref f)) (keep : PySem.W.keepIn X.K (.ref f) = true) (bnd : Binds X.K fd ps ds) (dfl : Vals dvs ds) (pas : Passes CX X E)
    (args : PA X (e :: es) t) (ndb : (x == ("__debug__" : Str)) = false := by decide) (se : starEach (e :: es) X.env = (false, eval e X.env) :: starEach es X.env := by rfl) (sn : (backTo pos (starEach es X.env)).any (·.1) = false := by rfl) :
    PE X (.Call (.Name x p) (e :: es) [] pos) (tCall sp dvs E t) := ⟨fun pins s σ H Q I h => by
  refine wpAny_Call_Name_kw (ld_glob I hg hm ?_ ndb)
  exact PySem.W.callWith_K (h₀ := X.base) I.ok.mod.kin keep (thn (args.run pos pins s σ H _ I h) fun us s1 ⟨vs, H1, I1, rel, q⟩ => ⟨I1.kIn, run_g F gd room bnd dfl pas I1 rel q⟩) se sn⟩
end
/-! ### the law's end -/
section
variable {P : Program} {w : World} {K : PySem.W.Frag} {mg mb : Str → Option Value} {k : Nat} {fa a : Addr} {fd : FuncData} {x : Str} {sp : Sp} {s₁ : Shared} {vs : List Value} {ns : List Int}
/-- the abstract heap in which the script alone is tracked (unless it is the module's own) -/
def scriptH (K : PySem.W.Frag) (a : Addr) (vs : List Value) (ns : List Int) : Hp := fun b =>
  if b = a ∧ K.lookup a = none then some (.frz { cls := .type "list", data := .seq vs.toArray } (.lst (ns.map V.int))) else none
theorem scriptH_cases (b : Addr) : scriptH K a vs ns b = none ∨ (b = a ∧ K.lookup a = none ∧ scriptH K a vs ns b = some (.frz { cls := .type "list", data := .seq vs.toArray } (.lst (ns.map V.int)))) := by
  by_cases h : b = a ∧ K.lookup a = none
  · exact Or.inr ⟨h.1, h.2, if_pos h⟩
  · exact Or.inl (if_neg h)
theorem lawG (KX : K.In s₁.heap) (hns : s₁.heap.Ns mainGlobals mg) (hb : s₁.heap.Ns builtinsNs mb) (hbb : ∀ x : Str, x ≠ "__name__" → mb x = bootBuiltins x) (hlim : s₁.heap.NoLimit) (hg : s₁.gens = #[])
    (ha : s₁.heap.get? a = some { cls := .type "list", data := .seq vs.toArray }) (hi : IntsAre vs ns) (hl : ns.length ≤ sizeLine) (room : Room k callerA)
    (F : ∀ base : Heap, K.In base → base.Ns mainGlobals mg → FnG P w K mg base CX0 k fa fd [x] sp) (bnd : ∀ (s : Shared) (u : Value), BindsTo s fd ⟨[u], []⟩ [(x, u)])
    (hsp : ∀ H : Hp, SqL K H a (ns.map V.int) → sp [.ref a] H (fun v _ => v = .bl true) fun _ _ _ => False) :
    codeAny (model P w) callerA (.call (.ref fa) ⟨[.ref a], []⟩) (fun r s' => r = .ok (.ret (.bool true)) ∧ OldK s₁.heap s'.heap ∧ s'.os = s₁.os ∧ AllBare s'.gens) s₁ := by
  have rv : Vals (ns.map V.int) vs := vals_ints hi
  -- the base: all objects but the script
  have low : ∀ {b : Addr} {o : Obj}, s₁.heap.get? b = some o → (b = a → ∃ q, K.lookup a = some q) → (hidT s₁.heap (scriptH K a vs ns)).get? b = some o := fun {b o} e ne => hidT_get e (by
    rcases scriptH_cases (K := K) (a := a) (vs := vs) (ns := ns) b with z | ⟨z1, z2, _⟩
    · exact z
    · obtain ⟨q, hq⟩ := ne z1
      rw [z2] at hq
      cases hq)
  have names : ∀ {b : Addr} {m : Str → Option Value}, s₁.heap.Ns b m → (hidT s₁.heap (scriptH K a vs ns)).Ns b m := fun {b m} ⟨o, es, ep, e, d, rest⟩ => ⟨o, es, ep, low e (fun z => by
    rw [z, ha] at e
    cases e
    cases d), d, rest⟩
  have kin : K.In (hidT s₁.heap (scriptH K a vs ns)) := fun b o e => low (KX b o e) (fun z => ⟨o, by rw [← z]; exact e⟩)
  have modl : Mod K mg (hidT s₁.heap (scriptH K a vs ns)) := ⟨kin, names hns, ⟨mb, names hb, hbb⟩, by
    obtain ⟨mc, h1, h2⟩ := hlim
    exact ⟨mc, names h1, h2⟩⟩
  have hok : HOk P w (scriptH K a vs ns) s₁.heap := fun b u e => by
    rcases scriptH_cases (K := K) (a := a) (vs := vs) (ns := ns) b with z | ⟨z1, _, z2⟩
    · rw [z] at e
      cases e
    · rw [z2] at e
      cases e
      subst z1
      exact ⟨ha, by rw [List.length_map]; exact hl, vs, _, rv, ha⟩
  have hS : SqL K (scriptH K a vs ns) a (ns.map V.int) := by
    cases hk : K.lookup a with
    | none => exact Or.inl (Or.inr ⟨_, if_pos ⟨rfl, hk⟩⟩)
    | some o =>
      have e := KX a o hk
      rw [ha] at e
      cases e
      exact Or.inr ⟨_, vs.toArray, _, hk, rfl, rfl, rfl, by rw [List.size_toArray, hi.length]; exact hl, by simpa using rv⟩
  have env0 : Env0 P w K mg (hidT s₁.heap (scriptH K a vs ns)) callerA [] s₁ (scriptH K a vs ns) :=
    ⟨rfl, modl, fun b o e => of_hidT e, Nat.le_of_eq (hidT_size _ _), trivial, fun b z => (nomatch z), hok, .of_eq hg⟩
  refine codeAny_mono ((F _ kin (names hns)).run callerA [] s₁ (scriptH K a vs ns) ⟨[.ref a], []⟩ [.ref a] [.ref a] _ _ rfl room env0 (bnd s₁ (.ref a)) (.cons rfl .nil) (hsp _ hS)) fun res s' got => ?_
  rcases res with err | flow
  · exact got.elim
  · cases flow with
    | next => exact got.elim
    | brk => exact got.elim
    | cont => exact got.elim
    | ret u =>
      obtain ⟨v, H', os, bare, un, hok', rel, rfl⟩ := got
      obtain rfl : u = Value.bool true := rel
      refine ⟨rfl, OldK.of_keep fun b o e => ?_, os, bare⟩
      rcases scriptH_cases (K := K) (a := a) (vs := vs) (ns := ns) b with z | ⟨_, _, z⟩
      · exact un.keep b o e z (fun y => nomatch y) (fun y => nomatch y)
      · obtain ⟨e1, _⟩ := hok b _ z
        obtain ⟨e2, _⟩ := hok' b _ (un.frzs b _ _ z)
        rw [e] at e1
        cases e1
        exact e2
end
theorem walkG {l : PySem.W.OpenLaw} {n k : Nat} {q : Program} {loose : List Str} {XP : (Str → Option Value) → Heap → Prop} {YP : World → Heap → Prop} {d : DefRec} {x : Str}
    (hn : l.most = some n) (hn2 : n ≤ sizeLine) (hdf : d.params.defaults = []) (room : Room k callerA)
    (F : ∀ (w : World) (mg : Str → Option Value) (fa : Addr) (h : Heap), YP w h → h.Ns mainGlobals mg → mg d.name = some (.ref fa) →
      ∃ (K : PySem.W.Frag) (fd : FuncData) (sp : Sp), K.In h ∧ (∀ (s : Shared) (u : Value), BindsTo s fd ⟨[u], []⟩ [(x, u)]) ∧
        (∀ (H : Hp) (a : Addr) (ns : List Int), ns.length ≤ n → SqL K H a (ns.map V.int) → sp [.ref a] H (fun v _ => v = .bl true) fun _ _ _ => False) ∧
        ∀ base : Heap, K.In base → base.Ns mainGlobals mg → FnG l.prog w K mg base CX0 k fa fd [x] sp) :
    PySem.W.WalkO q loose XP YP l.row.toRowW d [] (fun f vs => PySem.call f vs) :=
  Att.attach_call hn hdf fun w s₀ s₁ mg mb fa o pm cd doc a vs ns G Y _ _ _ hmg hobj hints hlen hg => by
    obtain ⟨K, fd, sp, KX, bnd, hsp, hF⟩ := F w mg fa _ Y G.T.g hmg
    exact lawG KX G.T.g G.T.b G.T.builtins G.T.nolimit hg hobj hints (Nat.le_trans hlen hn2) room hF bnd fun H hS => hsp H a ns hlen hS
end Tx
end
section
set_option maxHeartbeats 4000000
/-! A method whose last statement is super().__init__(..). -/
namespace Tx
open PySem PySem.Spec PyProof.Rows L2
/-- the context of its body -/
def supX (CX : CXT) (P : Program) (w : World) (K : PySem.W.Frag) (mg : Str → Option Value) (base : Heap) (N : List Str) (qual : Str) (scope : Scope) (f : Addr) (cd : Value) (cc : Addr) (A : Around) (outer : List Env) (s : Shared) (H : Hp) (E : XK) : Cx where
  prog := P
  w := w
  K := K
  mg := mg
  base := base
  A := A.deeper (PySem.W.ksEnv qual scope s.heap.objs.size f cd cc)
  N := N
  s_0 := s
  H_0 := H
  env := PySem.W.ksEnv qual scope s.heap.objs.size f cd cc
  outer := outer
  stack := PySem.W.ksEnv qual scope s.heap.objs.size f cd cc :: outer
  ex := []
  calm := true
  fn := fun x => x != ("__class__" : Str)
  pn := []
  xe := fun e s' => wpAny (model P w) (A.deeper (PySem.W.ksEnv qual scope s.heap.objs.size f cd cc)) (leaving (PySem.W.ksEnv qual scope s.heap.objs.size f cd cc) e) (fun _ s'' => CX outer H s E e s'') (fun e' s'' => CX outer H s E e' s'') s'
structure SupScope (N ps : List Str) (sc : Scope) : Prop where
  kind : sc.kind = .function
  co : sc.isCoroutine = false
  gen : sc.isGenerator = false
  nd : N.Nodup
  pre : N.take ps.length = ps
  par : ∀ x ∈ ps, sc.names.lookup x = some .local
  nocell : ∀ y ∈ sc.names, y.2 ≠ .cell
  fre : ∀ y ∈ sc.names, y.2 = .free → y.1 = "__class__"
section
variable {CX : CXT} {P : Program} {w : World} {K : PySem.W.Frag} {mg : Str → Option Value} {base : Heap} {N ps : List Str} {qual : Str} {scope : Scope} {f cc : Addr} {cd : Value} {A : Around} {outer : List Env} {s : Shared} {H : Hp} {E : XK} {us : List Value} {vs : List V}
theorem inv_sup {h₁ : Heap} {tk : Nat} (S : SupScope N ps scope) (hd : A.handled = none) (e0 : Env0 P w K mg base A outer s H) (hl : vs.length = ps.length) (r : Vals vs us) {ocl : Value} {ocd : Option Addr} {osl : Array (Option Value)} {cv : Option Value}
    (hcc : K.lookup cc = some ⟨ocl, ocd, .cell cv, osl⟩) (hns : h₁.Ns s.heap.objs.size fun y => (ps.zip us).reverse.lookup y) (keep : ∀ b o, s.heap.get? b = some o → h₁.get? b = some o) :
    Inv (supX CX P w K mg base N qual scope f cd cc A outer s H E) [] (start N vs) H { s with heap := h₁, toks := tk } := by
  have hbase := e0.mod.kin _ _ hcc
  obtain ⟨hcs, hcH⟩ := e0.bs _ _ hbase
  have look1 : ∀ {x : Str} {c : Addr}, (supX CX P w K mg base N qual scope f cd cc A outer s H E).env.cells.lookup x = some c → x = "__class__" ∧ c = cc := fun {x c} h => by
    have h2 : List.lookup x [(("__class__" : Str), cc)] = some c := h
    by_cases e : x = "__class__"
    · subst e
      have z : List.lookup ("__class__" : Str) [(("__class__" : Str), cc)] = some cc := by simp [List.lookup]
      rw [z] at h2
      exact ⟨rfl, (Option.some.inj h2).symm⟩
    · have z : (x == ("__class__" : Str)) = false := by simpa using e
      have y : List.lookup x [(("__class__" : Str), cc)] = none := by simp [List.lookup, z]
      rw [y] at h2
      cases h2
  have isCell : h₁.IsCell cc cv := ⟨_, keep _ _ hcs, rfl⟩
  refine ⟨⟨e0.mod, S.kind, rfl, rfl, Nat.le_refl _, fun x y c h1 h2 => ?_, fun x hx => ?_, fun x c hf hc => ?_, fun _ => hd, Around.frames_deeper e0.frames, .inr ⟨rfl, rfl⟩, fun b z => (nomatch z), e0.bs, e0.bsz, fun b _ _ z => (nomatch z), fun b z => (nomatch z), e0.funs, e0.frf⟩,
    rfl, e0.bare, Un.kept keep, ⟨_, hns, fun i y v h1 h2 h3 => ?_⟩, fun x c h => ?_, e0.hok.fresh (Nat.le_refl _), fun x c h => ?_, fun p hp => (nomatch hp), e0.hok.kept keep, ?_⟩
  · rw [(look1 h1).1, (look1 h2).1]
  · have hx' : scope.names.lookup x = some .cell ∨ scope.names.lookup x = some .free := hx
    rcases hx' with z | z
    · exact absurd rfl (S.nocell _ (PySem.mem_of_lookup z))
    · have e := S.fre _ (PySem.mem_of_lookup z) rfl
      have e' : x = "__class__" := e
      subst e'
      exact ⟨cc, by show List.lookup ("__class__" : Str) [(("__class__" : Str), cc)] = some cc; simp [List.lookup]⟩
  · have e := (look1 hc).1
    subst e
    have z : (("__class__" : Str) != ("__class__" : Str)) = true := hf
    simp at z
  · have hi : i < vs.length := by
      unfold L2.start at h2
      by_cases hi : i < vs.length
      · exact hi
      · rw [List.getElem?_append_right (by simpa using hi), List.getElem?_replicate] at h2
        split at h2 <;> cases h2
    have ha : vs[i]? = some v := by
      unfold L2.start at h2
      rw [List.getElem?_append_left (by simpa using hi), List.getElem?_map] at h2
      cases e : vs[i]? with
      | none =>
        rw [e] at h2
        cases h2
      | some a =>
        rw [e] at h2
        cases h2
        rfl
    obtain ⟨u, hu, rv⟩ := r.get ha
    have hp : ps[i]? = some y := by
      rw [← S.pre, List.getElem?_take_of_lt (by omega)]
      exact h1
    have ndP : ps.Nodup := by
      rw [← S.pre]
      exact S.nd.sublist (List.take_sublist _ _)
    exact ⟨u, rv, .inl ⟨S.par y (List.mem_of_getElem? hp), NdefX.zip_look ndP hp hu⟩⟩
  · rw [(look1 h).2]
    exact ⟨_, isCell⟩
  · rw [(look1 h).2]
    exact hcH
  · have hpl : ps.length ≤ N.length := by
      have := congrArg List.length S.pre
      rw [List.length_take] at this
      omega
    unfold L2.start
    show _ = N.length
    rw [List.length_append, List.length_map, List.length_replicate]
    omega
end
end Tx
end
section
set_option maxHeartbeats 4000000
/-! super().__init__(e, ..) as a statement, in the body of a method of the class at D. -/
namespace Tx
open PySem PySem.Spec PyProof.Rows L2
/-- what the written part says of the method (at f, its code at cda, its cell of __class__ at cc, its class D) and of the method above (at g) -/
structure SupF (P : Program) (K : PySem.W.Frag) (f cda cc D C g : Addr) (selfN name : Str) : Prop where
  fn : ∃ oc od fd osl ar, K.lookup f = some ⟨oc, od, .func fd, osl⟩ ∧ (fd.params.posonlyargs ++ fd.params.args).head? = some ar ∧ ar.arg = selfN
  code : ∃ a b vs c file tf, K.lookup cda = some ⟨a, b, .fields vs, c⟩ ∧ vs[2]? = some (.str file tf) ∧ ((P.main.file : Str) == file) = true
  cell : ∃ a b c, K.lookup cc = some ⟨a, b, .cell (some (.ref D)), c⟩
  cls : ∃ cd, PySem.W.clsIn K D = some cd
  sub : PySem.W.mroIn K C (.ref D) = some true
  stat : PySem.W.nsIn K cStatics "thirdparty.any" = some none
  up : PySem.W.ks_superIn K C D name = some (some (.ref g))
  ty : PySem.W.typeIn K (.ref g) = some (.type "function")
  fi : PySem.W.fnIn K g = true
  top : (P.main.scope.names.lookup ("super" : Str)).isSome = false
section
variable {X : Cx} {pins : List (Addr × Obj)} {σ : L2.St} {H : Hp} {s : Shared} {qual : Str} {scope : Scope} {L f cda cc D C g : Addr} {self name : Str} {body : List Stmt} {p0 p1 apos pos epos : Pos} {e : Expr} {es : List Expr} {ta : TA} {CX : CXT} {k : Nat} {fd : FuncData} {ps : List Str} {sp : Sp} {E : XK} {Q : VK} {pl : Sem Bool}
theorem sup_stmt (TS : SupF X.prog X.K f cda cc D C g self name) (henv : X.env = PySem.W.ksEnv qual scope L f (.ref cda) cc) (hks : scope.names.lookup ("super" : Str) = some .globalImplicit) (hkc : scope.names.lookup ("__class__" : Str) = some .free)
    (hka : scope.names.lookup self = some .local) (hm : X.mg "super" = none) (hat : (name == ("__class__" : Str)) = false) (hN : X.N[0]? = some self) (args : PA X (e :: es) ta) (F : FnOk X.prog X.w X.K X.mg X.base CX0 k g fd ps sp) (room : Room k X.A) (bnd : Binds X.K fd ps [])
    (I : Inv X pins σ H s) {x dx : Addr} {fs : List (Str × V)} (h0 : σ[0]? = some (some (.ref x))) (hx : H x = some (.ins C dx fs))
    (rd : ta σ H fun vs H1 => sp (.ref x :: vs) H1 Q (fun _ _ _ => False))
    (se : starEach (e :: es) X.env = (false, eval e X.env) :: starEach es X.env := by rfl) (sn : (backTo pos (starEach es X.env)).any (·.1) = false := by rfl)
    (he : eval (.Call (.Attribute (.Call (.Name "super" p0) [] [] p1) name apos) (e :: es) [] pos) X.env = (do
      let ov ← attributeBase (.Call (.Name "super" p0) [] [] p1) name X.env (eval (.Call (.Name "super" p0) [] [] p1) X.env)
      standAt apos.atName
      let (f, first) ← holding [ov] (getMethod ov name pl)
      callWith pos f first (backTo pos (starEach (e :: es) X.env)) []) := by rfl) :
    PySem.wpAt (model X.prog X.w) X.A (.func body X.env) (exec (.Expr (.Call (.Attribute (.Call (.Name "super" p0) [] [] p1) name apos) (e :: es) [] pos) epos) X.env)
      (fun fl s' => fl = .next ∧ ∃ v H', Inv X pins σ H' s' ∧ Q v H') X.xe s := by
  obtain ⟨oc, od, fdd, osl, ar, hf, hp, rfl⟩ := TS.fn
  obtain ⟨ca, cb, vs0, c3, file, tf, hco, hvs, hfile⟩ := TS.code
  obtain ⟨la, lb, lc, hcell⟩ := TS.cell
  obtain ⟨cdD, hcd⟩ := TS.cls
  have KX := I.kIn
  obtain ⟨oD, hD1, hD2⟩ : ∃ oD, s.heap.get? D = some oD ∧ oD.data = .cls cdD := by
    unfold PySem.W.clsIn at hcd
    split at hcd
    · rename_i z1 z2 z3 z4 ho
      cases hcd
      exact ⟨_, KX _ _ ho, rfl⟩
    · cases hcd
  obtain ⟨mA, O, _, _, _, _⟩ := ins_get I.hok hx
  obtain ⟨odx, J, _⟩ := O.look
  refine ks_wpAt_Expr_any (hi := I.quiet) (ks_wpAt_MethodCall (pl := pl) ?_ he)
  have self0 : ∃ m, s.heap.Ns X.env.locals m ∧ m ar.arg = some (.ref x) := by
    obtain ⟨m, hn, hl⟩ := I.loc
    obtain ⟨u, ru, lk⟩ := hl 0 ar.arg (.ref x) hN h0 (.inl (by rw [henv]; exact hka))
    cases ru
    rcases lk with ⟨_, z⟩ | ⟨z, _⟩
    · exact ⟨m, hn, z⟩
    · have z' : scope.names.lookup ar.arg = some .cell ∨ scope.names.lookup ar.arg = some .free := by
        rw [henv] at z
        exact z
      rw [hka] at z'
      rcases z' with z' | z' <;> cases z'
  obtain ⟨m, hns, hself⟩ := self0
  obtain ⟨mb, hb1, hb2⟩ := I.mod.blt
  have hk : X.env.scope.kind = .function := I.ok.kind
  have k1 : X.env.kindOf "super" = some .globalImplicit := by rw [henv]; exact hks
  have k2 : X.env.kindOf "__class__" = some .free := by rw [henv]; exact hkc
  refine ks_wpAt_super_base k1 k2 hat (by rw [henv]) (KX _ _ hf) rfl hp (by rw [henv]) (KX _ _ hco) rfl hvs hfile TS.top ?_
  refine PySem.W.ks_loadName_global hk k1 (Calls.loadGlobal_builtin (by rw [I.ok.glob]; exact I.mod.glob.keeps I.bk) hm (by rw [I.ok.blt]; exact hb1.keeps I.bk) ((hb2 "super" (by decide)).trans PyProof.Rows.Boot.«super») ⟨rfl, ?_⟩)
  refine wpAny_loadName_free hk k2 (c := cc) (by rw [henv]; rfl) ⟨_, KX _ _ hcell, rfl⟩ ?_
  refine wpAny_loadName_local hk (by rw [henv]; exact hka) hns hself ?_
  refine ks_wpAny_isType_cls hD1 hD2 ⟨rfl, ?_⟩
  obtain ⟨hp0, gs, dr, tk, os⟩ := s
  refine ks_wpAny_call_super hD1 hD2 J.at_ J.cls (fun c z => ?_) (PySem.W.looks_mroIn KX TS.sub) (fun h' e1 k3 => ?_)
  · have y := J.no
    unfold PySem.W.notCls at y
    rw [z] at y
    exact Bool.noConfusion y
  have I1 := ClX.pin_new (t' := tk) I k3 (Nat.le_refl _) e1 (fun v z => nomatch z)
  have up := TS.up
  cases hC : PySem.W.clsIn X.K C with
  | none =>
    unfold PySem.W.ks_superIn at up
    rw [hC] at up
    cases up
  | some cd =>
    unfold PySem.W.ks_superIn at up
    rw [hC] at up
    obtain ⟨of, hof, hofc⟩ : ∃ of, h'.get? g = some of ∧ of.cls = .type "function" := by
      have ht' : (X.K.lookup g).map (·.cls) = some (.type "function") := TS.ty
      cases z : X.K.lookup g with
      | none =>
        rw [z] at ht'
        cases ht'
      | some of =>
        rw [z] at ht'
        exact ⟨of, I1.kIn _ _ z, Option.some.inj ht'⟩
    have hxC : x ≠ C := PySem.W.ks_ne KX J hC
    refine ks_wpAny_getMethod_super e1 (PySem.W.looks_opaque I1.kIn TS.stat) (l₀ := cd.mro) (fun A Q E s k q => wpAny_bind ((PySem.W.looks_clsIn I1.kIn hC) A _ E s k (wpAny_pure q))) rfl I1.kIn up hof hofc hxC hat ?_
    have I2 := ClX.pin_new (o := PySem.W.methodObj (.ref g) (.ref x)) (t' := tk + 1) I1 (h' := h'.push (PySem.W.methodObj (.ref g) (.ref x))) (fun _ _ z => Heap.get?_push_of_some _ z) (Nat.le_refl _) (Heap.get?_push_size h' rfl) (fun v z => nomatch z)
    show wpAny _ _ (callWith pos (.ref h'.objs.size) [] (backTo pos (starEach (e :: es) X.env)) []) _ _ _
    have nb : X.base.get? h'.objs.size = none := ClX.base_none I1 (Nat.le_refl _)
    refine PySem.W.callWith_M (K := X.K) (h₀ := X.base) (first := []) I.ok.mod.kin (news_at ((I2.pin _ (List.mem_append_right _ List.mem_cons_self)).2.2.1) nb (ClX.pin_at I2)) List.mem_cons_self TS.fi ?_ se sn
    refine thn (args.run pos _ _ σ H _ I2 rd) fun us s3 ⟨ws, H2, I3, rv, q2⟩ => ⟨⟨ClX.pin_at I3, I3.kIn⟩, ?_⟩
    have hl : (Value.ref x :: us ++ []).length = ps.length := by
      have z := F.len _ _ _ _ q2
      rw [List.append_nil, ← z]
      exact congrArg Nat.succ (Paired.length rv).symm
    have bn := bnd s3 (Value.ref x :: us) I3.kIn hl
    rw [List.append_nil] at bn
    refine wpAny_call (PySem.W.method_call (ClX.pin_at I3) (codeAny_mono (F.run X.A X.stack s3 H2 ⟨.ref x :: us, []⟩ (.ref x :: us) (.ref x :: ws) Q (fun _ _ _ => False) room I3.env0 bn (.cons rfl rv) q2) fun res s' got => ?_))
    cases res with
    | error er => exact got.elim
    | ok fl =>
      cases fl with
      | ret u =>
        obtain ⟨v, H3, I4, _, q3⟩ := I3.after got
        exact ⟨rfl, v, H3, ClX.unpin (ClX.unpin I4), q3⟩
      | next => exact got.elim
      | brk => exact got.elim
      | cont => exact got.elim
end
end Tx
end
section
set_option maxHeartbeats 4000000
/-! Statements judged with their own code in hand (super() looks at it), and the rule for a method that has the cell __class__. -/
namespace Tx
open PySem PySem.Spec PyProof.Rows L2
/-- statements of a body, with the body in hand -/
structure CSs (X : Cx) (body st : List Stmt) (t : TS) : Prop where
  run : ∀ (pins : List (Addr × Obj)) (s : Shared) (σ : L2.St) (H : Hp) (D : Ends), Inv X pins σ H s → t D σ H → PySem.wpAt (model X.prog X.w) X.A (.func body X.env) (execs st X.env) (SP X pins D) X.xe s
section
variable {X : Cx} {body rest : List Stmt} {st : Stmt} {t u : TS}
theorem css_of {sts : List Stmt} (h : PSs X sts t) : CSs X body sts t := ⟨fun pins s σ H D I q => PySem.wpAt_of_wpAny (h.run pins s σ H D I q)⟩
theorem css_cons (h : PS X st t) (r : CSs X body rest u) : CSs X body (st :: rest) (tSeq t u) := ⟨fun pins s σ H D I q => by
  refine ks_wpAt_execs_cons (PySem.wpAt_of_wpAny (thn (h.run pins s σ H _ I q) fun fl s' got => ?_))
  cases fl with
  | next =>
    obtain ⟨σ1, H1, I1, q1⟩ := got
    exact r.run pins s' σ1 H1 D I1 q1
  | brk => exact got
  | cont => exact got
  | ret v => exact got⟩
end
/-- super().m(e, ..) as the last statement -/
def tSup (C : Addr) (sp : Sp) (ta : TA) : TS := fun D σ H => ∃ x dx fs, σ[0]? = some (some (.ref x)) ∧ H x = some (.ins C dx fs) ∧ ta σ H fun vs H1 => sp (.ref x :: vs) H1 (fun _ H' => D.nx σ H') (fun _ _ _ => False)
section
variable {X : Cx} {qual : Str} {scope : Scope} {L f cda cc D C g : Addr} {self name : Str} {body : List Stmt} {p0 p1 apos pos epos : Pos} {e : Expr} {es : List Expr} {ta : TA} {CX : CXT} {k : Nat} {fd : FuncData} {ps : List Str} {sp : Sp} {pl : Sem Bool}
theorem css_sup (TS : SupF X.prog X.K f cda cc D C g self name) (henv : X.env = PySem.W.ksEnv qual scope L f (.ref cda) cc) (hks : scope.names.lookup ("super" : Str) = some .globalImplicit) (hkc : scope.names.lookup ("__class__" : Str) = some .free)
    (hka : scope.names.lookup self = some .local) (hm : X.mg "super" = none) (hat : (name == ("__class__" : Str)) = false) (hN : X.N[0]? = some self) (args : PA X (e :: es) ta) (F : FnOk X.prog X.w X.K X.mg X.base CX0 k g fd ps sp) (room : Room k X.A) (bnd : Binds X.K fd ps [])
    (se : starEach (e :: es) X.env = (false, eval e X.env) :: starEach es X.env := by rfl) (sn : (backTo pos (starEach es X.env)).any (·.1) = false := by rfl)
    (he : eval (.Call (.Attribute (.Call (.Name "super" p0) [] [] p1) name apos) (e :: es) [] pos) X.env = (do
      let ov ← attributeBase (.Call (.Name "super" p0) [] [] p1) name X.env (eval (.Call (.Name "super" p0) [] [] p1) X.env)
      standAt apos.atName
      let (f, first) ← holding [ov] (getMethod ov name pl)
      callWith pos f first (backTo pos (starEach (e :: es) X.env)) []) := by rfl) :
    CSs X body [.Expr (.Call (.Attribute (.Call (.Name "super" p0) [] [] p1) name apos) (e :: es) [] pos) epos] (tSup C sp ta) := ⟨fun pins s σ H Dn I ⟨x, dx, fs, h0, hx, rd⟩ => by
  refine ks_wpAt_execs_cons (ks_wpAt_mono (sup_stmt (body := body) (epos := epos) TS henv hks hkc hka hm hat hN args F room bnd I h0 hx rd se sn he) (fun fl s' got => ?_) fun _ _ z => z)
  obtain ⟨rfl, v, H', I', q⟩ := got
  exact PySem.wpAt_of_wpAny (by rw [execs_nil]; exact wpAny_pure ⟨σ, H', I', q⟩)⟩
end
/-- a method with the cell __class__ (at cc), as it stands behind the top; dvs: its defaults -/
structure FunC (K : PySem.W.Frag) (x qual : Str) (params : Arguments) (body : List Stmt) (scope : Scope) (dvs : List V) (f cda cc : Addr) (fd : FuncData) : Prop where
  ex : ∃ (oc : Value) (od : Option Addr) (dV kV doc pm : Value) (an : Option Addr) (ct : Value) (osl : Array (Option Value)),
    fd = PySem.W.ksFn x qual params body scope dV kV doc pm an (.ref cda) ct cc ∧ K.lookup f = some ⟨oc, od, .func fd, osl⟩ ∧ PySem.W.codeIn K (.ref cda) qual = true ∧ DflV K dV dvs
  cl : ∃ (a : Value) (b : Option Addr) (c : Array (Option Value)) (v : Option Value), K.lookup cc = some ⟨a, b, .cell v, c⟩
section
variable {P : Program} {w : World} {K : PySem.W.Frag} {mg : Str → Option Value} {base : Heap} {x qual : Str} {params : Arguments} {body : List Stmt} {scope : Scope} {dvs : List V} {f cda cc : Addr} {fd : FuncData}
theorem FunC.ok {CX : CXT} {N ps : List Str} {k : Nat} {sp : Sp} (F : FunC K x qual params body scope dvs f cda cc fd) (S : SupScope N ps scope) (len : ∀ vs H Q E, sp vs H Q E → vs.length = ps.length)
    (hbody : ∀ (A : Around) (outer : List Env) (s : Shared) (H : Hp) (vs : List V) (Q : VK) (E : XK), Room k (A.deeper (PySem.W.ksEnv qual scope s.heap.objs.size f (.ref cda) cc)) → sp vs H Q E →
      ∃ t, CSs (supX CX P w K mg base N qual scope f (.ref cda) cc A outer s H E) body body t ∧ t { nx := fun _ H' => Q .non H', rt := Q } (start N vs) H) : FnOk P w K mg base CX (k + 1) f fd ps sp := by
  obtain ⟨oc, od, dV, kV, doc, pm, an, ct, osl, rfl, lk, hcd, _⟩ := F.ex
  obtain ⟨ca, cb, c3, cv, hcl⟩ := F.cl
  refine ⟨len, fun A outer s H args us vs Q E hr e0 hb r hsp => ?_⟩
  have hl := len _ _ _ _ hsp
  have KX : K.In s.heap := e0.mod.kin.keeps fun b o e => (e0.bs b o e).1
  have lim : s.heap.NoLimit := e0.mod.nolimit.keeps fun b o e => (e0.bs b o e).1
  obtain ⟨t, ht, hq⟩ := hbody A outer s H vs Q E (hr.deeper _) hsp
  refine ks_codeAny_call_defAt (fd := PySem.W.ksFn x qual params body scope dV kV doc pm an (.ref cda) ct cc) (body := body) (binds := ps.zip us) hr.depth (KX _ _ lk) rfl lim (PySem.W.codeRec_of KX hcd) rfl hb S.nocell (fun y hy => S.par y.1 (List.of_mem_zip hy).1) (fun h₁ hns hk₁ => ?_) S.co S.gen S.kind
  refine ks_wpAt_mono (ht.run [] _ (start N vs) H _ (inv_sup S hr.hd e0 hl r hcl hns hk₁) hq) (fun fl s' hs => ?_) fun _ _ z => z
  cases fl with
  | ret u =>
    obtain ⟨v, σ', H', J, rv, q⟩ := hs
    exact ⟨v, H', J.os, J.bare, J.base, J.hok, rv, q⟩
  | next =>
    obtain ⟨σ', H', J, q⟩ := hs
    exact ⟨V.non, H', J.os, J.bare, J.base, J.hok, rfl, q⟩
  | brk =>
    obtain ⟨_, _, _, q⟩ := hs
    exact q.elim
  | cont =>
    obtain ⟨_, _, _, q⟩ := hs
    exact q.elim
theorem FunC.binds1 {ps : List Str} (F : FunC K x qual params body scope dvs f cda cc fd) (n j : Nat) (hd : dvs ≠ []) (hn : n + (dvs.length - j) = ps.length)
    (h : ∀ (T : Addr) (kV doc pm : Value) (an : Option Addr) (cdv ct : Value) (us its : List Value), us.length = n → its.length = dvs.length →
      ∃ k, bindArgs (PySem.W.ksFn x qual params body scope (.ref T) kV doc pm an cdv ct cc) ⟨us, []⟩ = seqItems? (.ref T) >>= k ∧ k (some its.toArray) = pure (ps.zip (us ++ its.drop j))) : ∃ ds, Vals (dvs.drop j) ds ∧ Binds K fd ps ds := by
  obtain ⟨oc, od, dV, kV, doc, pm, an, ct, osl, rfl, lk, hcd, hD⟩ := F.ex
  rcases hD with ⟨e, _⟩ | ⟨_, T, o, its, m, rfl, lT, oT, rT⟩
  · exact absurd e hd
  · refine ⟨its.drop j, rT.drop j, fun s us X hlen => ?_⟩
    have l1 : its.length = dvs.length := rT.length.symm
    have l2 : us.length = n := by
      rw [List.length_append, List.length_drop, l1] at hlen
      omega
    obtain ⟨k, e1, e2⟩ := h T kV doc pm an (.ref cda) ct us its l2 l1
    refine BindsTo.of_looks fun M => ?_
    rw [e1]
    exact looks_items X lT oT (.of_pure e2)
/-- n positional values, keywords named ks; the defaults in hand -/
theorem FunC.kbinds {ps : List Str} (F : FunC K x qual params body scope dvs f cda cc fd) (n : Nat) (ks : List Str) (g : {α : Type} → List α → List α → List α → List α) (hd : dvs ≠ [])
    (hrel : ∀ {vs ds zs : List V} {us its ws : List Value}, Vals vs us → Vals ds its → Vals zs ws → Vals (g vs ds zs) (g us its ws))
    (h : ∀ (T : Addr) (kV doc pm : Value) (an : Option Addr) (cdv ct : Value) (us its ws : List Value), us.length = n → its.length = dvs.length → ws.length = ks.length →
      ∃ k, bindArgs (PySem.W.ksFn x qual params body scope (.ref T) kV doc pm an cdv ct cc) ⟨us, ks.zip ws⟩ = seqItems? (.ref T) >>= k ∧ k (some its.toArray) = pure (ps.zip (g us its ws))) :
    ∃ its : List Value, KBn K fd ps n ks (fun us ws => g us its ws) (fun vs zs => g vs dvs zs) := by
  obtain ⟨oc, od, dV, kV, doc, pm, an, ct, osl, rfl, lk, hcd, hD⟩ := F.ex
  rcases hD with ⟨e, _⟩ | ⟨_, T, o, its, m, rfl, lT, oT, rT⟩
  · exact absurd e hd
  · refine ⟨its, ⟨fun s us ws X l1 l2 => ?_, fun r1 r2 => hrel r1 rT r2⟩⟩
    obtain ⟨k, e1, e2⟩ := h T kV doc pm an (.ref cda) ct us its ws l1 rT.length.symm l2
    refine BindsTo.of_looks fun M => ?_
    rw [e1]
    exact looks_items X lT oT (.of_pure e2)
end
end Tx
end
section
set_option maxHeartbeats 4000000
/-! Instances with their own ==, and != by it; their own text. -/
namespace Tx
open PySem PySem.Spec PyProof.Rows L2 Builtin
/-- a class with its own == (its def at f), != as object has it -/
structure EqC (K : PySem.W.Frag) (C f : Addr) : Prop where
  eq : PySem.W.findIn K (.ref C) "__eq__" = some (some (.ref f))
  fn : PySem.W.isFn K (.ref f) = true
  ne : PySem.W.findIn K (.ref C) "__ne__" = some (some (.builtin "object.__ne__"))
  ob : PySem.W.mroIn K C (.type "object") = some true
/-- x == y: x an instance of C, y of a type that is no heir of C -/
def rEqO (K : PySem.W.Frag) (C : Addr) (sp : Sp) (E : XK) : R2 := fun x y H Q => ∃ a dx fs t, x = .ref a ∧ H a = some (.ins C dx fs) ∧ TyX K H y t ∧ PySem.W.notFirst K C t = true ∧ sp [x, y] H (fun v H' => ∃ b, v = .bl b ∧ Q (.bl b) H') E
def rNeO (K : PySem.W.Frag) (C : Addr) (sp : Sp) (E : XK) : R2 := fun x y H Q => ∃ a dx fs t, x = .ref a ∧ H a = some (.ins C dx fs) ∧ TyX K H y t ∧ PySem.W.notFirst K C t = true ∧ sp [x, y] H (fun v H' => ∃ b, v = .bl b ∧ Q (.bl (!b)) H') E
section
variable {X : Cx} {CX : CXT} {k : Nat} {C f : Addr} {fd : FuncData} {ps : List Str} {sp : Sp} {E : XK}
theorem ifBound_B {M : Model} {A : Around} {E : Value → Shared → Prop} {s : Shared} {K : PySem.W.Frag} {x C : Addr} {ox : Obj} {od : Option Obj} {name : Str} {id : String} {args : List Value} {Q : Option Value → Shared → Prop} (KX : K.In s.heap) (I : PySem.W.InstAt s.heap x ox C od) (hs : PySem.W.findIn K (.ref C) name = some (some (.builtin id)))
    (hb : ∀ self, bindSpecial (.builtin id) self = pure (.builtin id, [self])) (h : wpAny M A (call (.builtin id) (.ref x :: args)) (fun v => Q (some v)) E s) : wpAny M A (callSpecialIfBound? (.ref x) name args) Q E s := by
  simp only [callSpecialIfBound?, bindSpecialIfBound?]
  refine wpAny_holding (wpAny_bind (wpAny_bind (wpAny_bind (I.type.here ((PySem.W.looks_findIn KX hs).here ?_)))))
  refine wpAny_bind (wpAny_askSetting (wpAny_ite ?_))
  have fin : wpAny M A (call (.builtin id) ([.ref x] ++ args) >>= fun v => pure (some v)) Q E s := wpAny_bind (wpAny_mono h (fun v s' h' => wpAny_pure h') fun _ _ h' => h')
  split
  · exact wpAny_bind ((PySem.W.Looks.of_pure (hb _)).here (wpAny_pure (by exact fin)))
  · exact wpAny_tryCatch (wpAny_bind ((PySem.W.Looks.of_pure (hb _)).here (wpAny_pure (by exact fin))))
/-- the call of the own == somewhere below the body -/
theorem run_eqO {pins : List (Addr × Obj)} {σ : L2.St} {H : Hp} {s : Shared} {A : Around} {x y : V} {u v : Value} {R : Bool → Hp → Prop} (F : FnOk X.prog X.w X.K X.mg X.base CX k f fd ps sp) (bnd : Binds X.K fd ps []) (pas : Passes CX X E)
    (room : Room k A) (fr : A.frames = X.A.frames) (I : Inv X pins σ H s) (rx : RelV x u) (ry : RelV y v) (h : sp [x, y] H (fun z H' => ∃ b, z = .bl b ∧ R b H') E) :
    wpAny (model X.prog X.w) A (call (.ref f) [u, v]) (fun r s' => ∃ b, r = .bool b ∧ ∃ H', Inv X pins σ H' s' ∧ R b H') X.xe s := by
  have e0 : Env0 X.prog X.w X.K X.mg X.base A X.stack s H := by
    have e := I.env0
    exact ⟨by rw [fr]; exact e.frames, e.mod, e.bs, e.bsz, e.funs, e.frf, e.hok, e.bare⟩
  have hl := F.len _ _ _ _ h
  refine wpAny_call (codeAny_mono (F.run A X.stack s H ⟨[u, v], []⟩ [u, v] [x, y] _ E room e0 (by
    have := bnd s [u, v] I.kIn (by simpa using hl)
    simpa using this) (.cons rx (.cons ry .nil)) h) fun r s' hq => ?_)
  cases r with
  | error e => exact pas pins σ H s e s' I hq
  | ok fl =>
    cases fl with
    | ret w =>
      obtain ⟨z, H', I', rz, b, ez, q⟩ := I.after hq
      subst ez
      cases rz
      exact ⟨b, rfl, H', I', q⟩
    | next => exact False.elim hq
    | brk => exact False.elim hq
    | cont => exact False.elim hq
theorem op_eqO (c : EqC X.K C f) (F : FnOk X.prog X.w X.K X.mg X.base CX k f fd ps sp) (room : Room k X.A) (bnd : Binds X.K fd ps []) (pas : Passes CX X E) : OpR X (compareOp .Eq) (rEqO X.K C sp E) := by
  intro pins s σ H x y u v Q I rx ry ⟨a, dx, fs, t, ex, ha, ty, nf, h⟩
  subst ex
  cases rx
  obtain ⟨mA, J, _⟩ := ins_get I.hok ha
  obtain ⟨od, J, _⟩ := J.look
  obtain ⟨m, hF⟩ := I.fr
  obtain ⟨PP, kx, pp, _⟩ := kit_of I ry ty
  show wpAny (model X.prog X.w) X.A (richCompare .Eq (.ref a) v) (EP X pins σ Q) X.xe s
  refine PySem.W.cmp_K (op := .Eq) (tb := t) room.units0 hF I.ok.mod.kin J (kx.ty _ _ I.kIn pp) nf c.eq c.fn ?_
  refine wpAny_mono (run_eqO (x := .ref a) F bnd pas room rfl I rfl ry h) (fun r s' ⟨b, er, H', I', q⟩ => ?_) fun _ _ z => z
  subst er
  exact ⟨.bl b, H', I', rfl, q⟩
theorem op_neO (c : EqC X.K C f) (F : FnOk X.prog X.w X.K X.mg X.base CX k f fd ps sp) (room : Room (k + 1) X.A) (bnd : Binds X.K fd ps []) (pas : Passes CX X E) : OpR X (compareOp .NotEq) (rNeO X.K C sp E) := by
  intro pins s σ H x y u v Q I rx ry ⟨a, dx, fs, t, ex, ha, ty, nf, h⟩
  subst ex
  cases rx
  obtain ⟨mA, J, _⟩ := ins_get I.hok ha
  obtain ⟨od, J, _⟩ := J.look
  obtain ⟨PP, kx, pp, _⟩ := kit_of I ry ty
  show wpAny (model X.prog X.w) X.A (richCompare .NotEq (.ref a) v) (EP X pins σ Q) X.xe s
  have hu1 : X.A.in1.units < cLine := room.in1.units0
  have body : wpAny (model X.prog X.w) X.A.in1 (Builtin.«object.__ne__» ⟨[.ref a, v], []⟩) (fun fin s' => ∃ r, fin = .done (.ret r) ∧ ∃ b, r = .bool b ∧ EP X pins σ Q (.bool b) s') X.xe s := by
    unfold Builtin.«object.__ne__»
    refine wpAny_bind (m := slotArgs "__ne__" 1 _) (wpAny_pure ?_)
    refine wpAny_bind (m := cRoomFor _ _) (wpAny_cRoomFor hu1 ?_)
    refine wpAny_bind (m := callSpecialIfBound? (.ref a) (Str.ofString "__eq__") _) (PySem.W.ifBound_K I.kIn J c.eq c.fn ?_)
    refine wpAny_mono (run_eqO (x := .ref a) F bnd pas room.in1 rfl I rfl ry h) (fun r s' ⟨b, er, H', I', q⟩ => ?_) fun _ _ z => z
    subst er
    exact wpAny_bind (wpAny_pure (wpAny_pure ⟨_, rfl, _, rfl, .bl (!b), H', I', rfl, q⟩))
  have called : wpAny (model X.prog X.w) X.A (call (.builtin "object.__ne__") [.ref a, v]) (fun r s' => ∃ b, r = .bool b ∧ EP X pins σ Q (.bool b) s') X.xe s := by
    refine wpAny_call (codeAny_call_builtin PySem.F.slot_tuple_iterator_ne.plain PySem.F.cmpEntry_ne (PySem.W.check_slot (i := "object.__ne__") (owner := "object") (n := "__ne__") PySem.F.cmpKind_ne PySem.F.cmpSplit_ne (J.type.andThen (PySem.W.looks_mroIn I.kIn c.ob)) (PySem.F.cmpArgs_ne _ _) ?_))
    refine wpAny_mono body (fun fin s' ⟨r, ef, q⟩ => ?_) fun _ _ z => z
    subst ef
    exact q
  have one : wpAny (model X.prog X.w) X.A (tryCompare (.ref a) (cmpInfo .NotEq).2.1 v) (fun r s' => ∃ z, r = some z ∧ EP X pins σ Q z s') X.xe s := by
    unfold tryCompare
    refine wpAny_bind (ifBound_B I.kIn J c.ne PySem.F.slot_tuple_iterator_ne.bind (wpAny_mono called (fun r s' ⟨b, er, q⟩ => ?_) fun _ _ z => z))
    subst er
    exact wpAny_pure ⟨_, rfl, q⟩
  unfold richCompare
  simp only [oneThing_ref]
  refine wpAny_holding (wpAny_bind (wpAny_cRoomFor room.units0 ?_))
  refine wpAny_bind (J.type.here (wpAny_bind ((kx.ty _ _ I.kIn pp).here ?_)))
  split
  · rename_i q
    have e : PySem.W.subIn X.K t (.ref C) = some false := by
      rcases Bool.or_eq_true_iff.mp nf with e | e
      · rw [beq_iff_eq.mp e] at q
        simp at q
      · exact beq_iff_eq.mp e
    refine wpAny_bind ((PySem.W.looks_subIn I.kIn e).here ?_)
    simp only [Bool.false_eq_true, if_false]
    refine wpAny_bind (wpAny_mono one (fun r s' z => ?_) fun _ _ e => e)
    obtain ⟨v, rfl, hq⟩ := z
    exact wpAny_pure hq
  · refine wpAny_bind (wpAny_pure ?_)
    simp only [Bool.false_eq_true, if_false]
    refine wpAny_bind (wpAny_mono one (fun r s' z => ?_) fun _ _ e => e)
    obtain ⟨v, rfl, hq⟩ := z
    exact wpAny_pure hq
end
end Tx
end
section
set_option maxHeartbeats 4000000
/-! str of own instances; classes called with a star or through a name of the body; methods called by keywords. -/
namespace Tx
open PySem PySem.Spec PyProof.Rows L2 StX
/-- a call somewhere below the body by its promise -/
theorem run_at {X : Cx} {CX : CXT} {k : Nat} {f : Addr} {sp : Sp} {E : XK} {pins : List (Addr × Obj)} {σ : L2.St} {H : Hp} {s : Shared} {A : Around} {vs : List V} {us : List Value} {Q : VK} (F : FnR X.prog X.w X.K X.mg X.base CX k f sp) (pas : Passes CX X E)
    (room : Room k A) (fr : A.frames = X.A.frames) (I : Inv X pins σ H s) (r : Vals vs us) (h : sp vs H Q E) : wpAny (model X.prog X.w) A (call (.ref f) us) (EP X pins σ Q) X.xe s := by
  have e0 : Env0 X.prog X.w X.K X.mg X.base A X.stack s H := by
    have e := I.env0
    exact ⟨by rw [fr]; exact e.frames, e.mod, e.bs, e.bsz, e.funs, e.frf, e.hok, e.bare⟩
  refine wpAny_call (codeAny_mono (F A X.stack s H us vs Q E room e0 r h) fun r s' hq => ?_)
  cases r with
  | error e => exact pas pins σ H s e s' I hq
  | ok fl =>
    cases fl with
    | ret w => exact I.after hq
    | next => exact False.elim hq
    | brk => exact False.elim hq
    | cont => exact False.elim hq
structure StrC (K : PySem.W.Frag) (C f : Addr) : Prop where
  st : PySem.W.findIn K (.ref C) "__str__" = some (some (.ref f))
  fn : PySem.W.isFn K (.ref f) = true
def rStrO (C : Addr) (sp : Sp) (E : XK) : List V → Hp → VK → Prop := fun xs H Q => ∃ a dx fs, xs = [.ref a] ∧ H a = some (.ins C dx fs) ∧ sp xs H (fun v H' => ∃ y, v = .str y ∧ Q (.str y) H') E
section
variable {X : Cx} {CX : CXT} {k i : Nat} {C f g p : Addr} {fd : FuncData} {ps ks : List Str} {sp : Sp} {E : XK} {x m : Str} {e o : Expr} {es : List Expr} {kws : List Keyword} {te ta : TE} {t tk : TA} {np pos apos : Pos} {mc : Value} {pl : Sem Bool}
theorem call_strO (c : StrC X.K C f) (F : FnR X.prog X.w X.K X.mg X.base CX k f sp) (room : Room (k + 2) X.A) (pas : Passes CX X E) : CallR X (.type "str") (rStrO C sp E) := by
  intro pins s σ H xs us Q I r ⟨a, dx, fs, ex, ha, h⟩
  subst ex
  cases r with
  | cons r1 r2 =>
    cases r1
    cases r2
    obtain ⟨mA, J, _⟩ := ins_get I.hok ha
    obtain ⟨od, J, _⟩ := J.look
    refine PySem.W.kso_call room.in1.in1.units0 I.kIn J c.st c.fn (wpAny_mono (run_at (vs := [.ref a]) (us := [.ref a]) F pas room.in1.in1 rfl I (.cons rfl .nil) h) (fun r s' ⟨v, H', I', rv, y, ev, q⟩ => ?_) fun _ _ z => z)
    subst ev
    obtain ⟨t, rfl⟩ := rv
    exact ⟨.str y, H', I', ⟨t, rfl⟩, q⟩
/-- C(e, .., *y) -/
theorem pe_makeS (M : Mk X.K C f) (F : FnR X.prog X.w X.K X.mg X.base CX k f sp) (hr : Room (k + 1) X.A) (hg : Gl X x) (hm : X.mg x = some (.ref C)) (hx : Passes CX X E) (ha : PA X (e :: es) t) (hdb : (x == ("__debug__" : Str)) = false := by decide)
    (he : starEach (e :: es) X.env = (false, eval e X.env) :: starEach es X.env := by rfl) (hst : (backTo pos (starEach es X.env)).any (·.1) = true := by rfl) : PE X (.Call (.Name x np) (e :: es) [] pos) (tMakeR C sp E t) := by
  refine ⟨fun pins s σ H Q I h => ?_⟩
  refine wpAny_Call_Name_kw (ld_glob I hg hm ?_ hdb)
  refine PySem.W.callWith_S2 (h₀ := X.base) I.ok.mod.kin M.kp (thn (ha.run pos pins s σ H _ I h) fun us s1 ⟨vs, H1, I1, r, q⟩ => ⟨I1.kIn, ?_⟩) he hst
  exact run_makeR M F hr hx I1 r q
/-- the class stands in the i-th slot: c(e, ..), c(e, .., *y) -/
def tMakeL (i : Nat) (C : Addr) (sp : Sp) (E : XK) (t : TA) : TE := fun σ H Q => σ[i]? = some (some (.ref C)) ∧ tMakeR C sp E t σ H Q
theorem pe_makeL (M : Mk X.K C f) (F : FnR X.prog X.w X.K X.mg X.base CX k f sp) (hr : Room (k + 1) X.A) (hN : X.N[i]? = some x) (hv : Vis X.env.scope x) (hx : Passes CX X E) (ha : PA X (e :: es) t)
    (hdb : (x == ("__debug__" : Str)) = false := by decide) (hcd : (x == ("__classdict__" : Str)) = false := by decide)
    (he : starEach (e :: es) X.env = (false, eval e X.env) :: starEach es X.env := by rfl) (hpl : (backTo pos (starEach es X.env)).any (·.1) = false := by rfl) : PE X (.Call (.Name x np) (e :: es) [] pos) (tMakeL i C sp E t) := by
  refine ⟨fun pins s σ H Q I ⟨hs, h⟩ => ?_⟩
  refine wpAny_Call_Name_kw (thn ((pe_var (pos := np) hN hv hdb hcd).run pins s σ H (fun v H1 => v = .ref C ∧ H1 = H) I ⟨.ref C, hs, rfl, rfl⟩) fun u s1 ⟨v, H1, I1, r1, q1⟩ => ?_)
  obtain ⟨rfl, rfl⟩ := q1
  cases r1
  refine PySem.W.callWith_K (h₀ := X.base) I.ok.mod.kin M.kp (thn (ha.run pos pins s1 σ _ _ I1 h) fun us s2 ⟨vs, H2, I2, r, q⟩ => ⟨I2.kIn, ?_⟩) he hpl
  exact run_makeR M F hr hx I2 r q
theorem pe_makeLS (M : Mk X.K C f) (F : FnR X.prog X.w X.K X.mg X.base CX k f sp) (hr : Room (k + 1) X.A) (hN : X.N[i]? = some x) (hv : Vis X.env.scope x) (hx : Passes CX X E) (ha : PA X (e :: es) t)
    (hdb : (x == ("__debug__" : Str)) = false := by decide) (hcd : (x == ("__classdict__" : Str)) = false := by decide)
    (he : starEach (e :: es) X.env = (false, eval e X.env) :: starEach es X.env := by rfl) (hst : (backTo pos (starEach es X.env)).any (·.1) = true := by rfl) : PE X (.Call (.Name x np) (e :: es) [] pos) (tMakeL i C sp E t) := by
  refine ⟨fun pins s σ H Q I ⟨hs, h⟩ => ?_⟩
  refine wpAny_Call_Name_kw (thn ((pe_var (pos := np) hN hv hdb hcd).run pins s σ H (fun v H1 => v = .ref C ∧ H1 = H) I ⟨.ref C, hs, rfl, rfl⟩) fun u s1 ⟨v, H1, I1, r1, q1⟩ => ?_)
  obtain ⟨rfl, rfl⟩ := q1
  cases r1
  refine PySem.W.callWith_S2 (h₀ := X.base) I.ok.mod.kin M.kp (thn (ha.run pos pins s1 σ _ _ I1 h) fun us s2 ⟨vs, H2, I2, r, q⟩ => ⟨I2.kIn, ?_⟩) he hst
  exact run_makeR M F hr hx I2 r q
variable {n : Nat} {gz : List Value → List Value → List Value} {gV : List V → List V → List V}
/-- o.m(k = v, ..) of an instance of C -/
def tMethK (C : Addr) (m : Str) (nk : Nat) (sp : Sp) (gV : List V → List V → List V) (E : XK) (ta : TE) (tk : TA) : TE := fun σ H Q => ta σ H fun x H1 => ∃ a dx fs, x = .ref a ∧ H1 a = some (.ins C dx fs) ∧ fs.lookup m = none ∧ tk σ H1 fun zs H2 => zs.length = nk ∧ sp (gV [x] zs) H2 Q E
theorem pe_methK (he : PE X o ta) (c : Cls X.K C) (hm : Meth X.K C m f) (F : FnOk X.prog X.w X.K X.mg X.base CX k f fd ps sp) (hr : Room k X.A) (hb : KBn X.K fd ps 1 ks gz gV) (hx : Passes CX X E) (hkw : PK X kws tk)
    (hall : (backToKw pos (keywordEach kws X.env)).all (·.1.isSome) = true := by rfl) (hks : (backToKw pos (keywordEach kws X.env)).filterMap (·.1) = ks := by rfl)
    (hpl : ((backTo pos (starEach [] X.env)).any (·.1) || (backToKw pos (keywordEach kws X.env)).any (·.1.isNone)) = false := by rfl)
    (ht : eval (.Call (.Attribute o m apos) [] kws pos) X.env = (do
      let ov ← eval o X.env
      standAt apos.atName
      let (f, first) ← holding [ov] (getMethod ov m pl)
      callWith pos f first (backTo pos (starEach [] X.env)) (backToKw pos (keywordEach kws X.env))) := by rfl) :
    PE X (.Call (.Attribute o m apos) [] kws pos) (tMethK C m ks.length sp gV E ta tk) := by
  refine ⟨fun pins s σ H Q I h => ?_⟩
  refine PySem.W.methodCall_KW (pl := pl) (thn (he.run pins s σ H _ I h) fun u s1 ⟨x, H1, I1, rx, a, dx, fs, ex, ea, l, q⟩ => ?_) ht
  subst ex
  obtain rfl : u = Value.ref a := rx
  refine getmeth_ok I1 ea c hm l ?_
  refine PySem.W.callWith_KW0 (h₀ := X.base) (first := [.ref a]) I.ok.mod.kin hm.kp hall ?_ hpl
  refine thn (hkw.run pos pins s1 σ H1 _ I1 q) fun ws s2 ⟨zs, H2, I2, rz, l2, q2⟩ => ⟨I2.kIn, ?_⟩
  rw [hks]
  exact run_fnN (us := [.ref a]) (vs := [.ref a]) F hr hb hx I2 (.cons rfl .nil) rz rfl l2 q2
/-- D.m(k = v, ..), D the class at C, m a classmethod -/
def tCMethK (C : Addr) (nk : Nat) (sp : Sp) (gV : List V → List V → List V) (E : XK) (ta : TE) (tk : TA) : TE := fun σ H Q => ta σ H fun x H1 => x = .ref C ∧ tk σ H1 fun zs H2 => zs.length = nk ∧ sp (gV [.ref C] zs) H2 Q E
theorem pe_cmethK (he : PE X o ta) (r : ClX.CRead X.K C mc) (c : ClX.CMet X.K C mc m p g) (F : FnOk X.prog X.w X.K X.mg X.base CX k g fd ps sp) (hr : Room k X.A) (hb : KBn X.K fd ps 1 ks gz gV) (hx : Passes CX X E) (hkw : PK X kws tk)
    (hall : (backToKw pos (keywordEach kws X.env)).all (·.1.isSome) = true := by rfl) (hks : (backToKw pos (keywordEach kws X.env)).filterMap (·.1) = ks := by rfl)
    (hpl : ((backTo pos (starEach [] X.env)).any (·.1) || (backToKw pos (keywordEach kws X.env)).any (·.1.isNone)) = false := by rfl)
    (ht : eval (.Call (.Attribute o m apos) [] kws pos) X.env = (do
      let ov ← eval o X.env
      standAt apos.atName
      let (f, first) ← holding [ov] (getMethod ov m pl)
      callWith pos f first (backTo pos (starEach [] X.env)) (backToKw pos (keywordEach kws X.env))) := by rfl) :
    PE X (.Call (.Attribute o m apos) [] kws pos) (tCMethK C ks.length sp gV E ta tk) := by
  refine ⟨fun pins s σ H Q I h => ?_⟩
  refine PySem.W.methodCall_KW (pl := pl) (thn (he.run pins s σ H _ I h) fun u s1 ⟨x, H1, I1, rx, ex, q⟩ => ?_) ht
  subst ex
  obtain rfl : u = Value.ref C := rx
  refine ClX.getmethcm_ok I1 r c fun s2 I2 => ?_
  have gd : wpAny (model X.prog X.w) X.A (evalAll ((backToKw pos (keywordEach kws X.env)).map (·.2))) (fun wz s3 => PySem.W.MethP X.K s1.heap.objs.size g (.ref C) s3.heap ∧
      wpAny (model X.prog X.w) X.A (call (.ref s1.heap.objs.size) ([] ++ []) (((backToKw pos (keywordEach kws X.env)).filterMap (·.1)).zip wz)) (EP X pins σ Q) X.xe s3) X.xe s2 := by
    refine thn (hkw.run pos _ s2 σ H1 _ I2 q) fun ws s3 ⟨zs, H2, I3, rz, l2, q2⟩ => ⟨⟨ClX.pin_at I3, I3.kIn⟩, ?_⟩
    rw [hks]
    refine wpAny_call (PySem.W.method_call (ClX.pin_at I3) (codeAny_mono (F.run X.A X.stack s3 H2 ⟨[.ref C], ks.zip ws⟩ (gz [.ref C] ws) (gV [.ref C] zs) Q E hr I3.env0 (hb.to s3 [.ref C] ws I3.kIn rfl (rz.length.symm.trans l2)) (hb.rel (.cons rfl .nil) rz) q2) fun res s' got => ?_))
    cases res with
    | error er => exact hx _ σ H2 s3 er s' I3 got
    | ok fl =>
      cases fl with
      | ret w => exact ClX.unpinE (I3.after got)
      | next => exact got.elim
      | brk => exact got.elim
      | cont => exact got.elim
  exact PySem.W.callWith_of hpl (PySem.W.keeps_M c.fi) (evalArgs_kw2_nil hall gd)
end
end Tx
end
section
set_option maxHeartbeats 4000000
/-! The head by facts: defs at any address, methods with the cell __class__, classes' facts as Bools. -/
namespace Hx
open PySem PySem.Spec PyProof.Rows L2 Tx He
/-- one def: where it stands, and its text; clo: it has the cell __class__ -/
structure DefH where
  at_ : PySem.W.Frag → Addr
  name : Str
  qual : Str
  params : Arguments
  body : List Stmt
  scope : Scope
  dfl : List He.Dv := []
  clo : Bool := false
def fnH (K : PySem.W.Frag) (a : Addr) : He.FnW := match K.lookup a with
  | some ⟨_, _, .func fd, _⟩ => some (fd.name, fd.qualname, fd.params, fd.body, fd.scope, fd.globals, fd.closure.map fun q => (q.1, 0), fd.builtins)
  | _ => none
def DefH.val (d : DefH) : He.FnW := some (d.name, d.qual, d.params, .stmts d.body, d.scope, mainGlobals, (match d.clo with | true => [("__class__", 0)] | false => []), builtinsNs)
def DefH.dvs (K : PySem.W.Frag) (d : DefH) : List V := d.dfl.map (He.Dv.v K)
/-- the cell of a def that has one, its code -/
def ccA (K : PySem.W.Frag) (a : Addr) : Addr := match K.lookup a with
  | some ⟨_, _, .func fd, _⟩ => (match fd.closure with
    | [(_, c)] => c
    | _ => 0)
  | _ => 0
def cdA (K : PySem.W.Frag) (a : Addr) : Addr := match K.lookup a with
  | some ⟨_, _, .func fd, _⟩ => (match fd.code with
    | .ref c => c
    | _ => 0)
  | _ => 0
def cellB (K : PySem.W.Frag) (c : Addr) : Bool := match K.lookup c with
  | some ⟨_, _, .cell _, _⟩ => true
  | _ => false
def DefH.ok (K : PySem.W.Frag) (d : DefH) : Bool := PySem.W.keepIn K (.ref (d.at_ K)) && (match K.lookup (d.at_ K) with
  | some ⟨_, _, .func fd, _⟩ => PySem.W.codeIn K fd.code d.qual && (He.dflB K fd.defaults (d.dvs K) && (!d.clo || cellB K (ccA K (d.at_ K))))
  | _ => false)
theorem DefH.funD {K : PySem.W.Frag} {d : DefH} (e : fnH K (d.at_ K) = d.val) (c : d.ok K = true) (cl : d.clo = false) : ∃ fd, FunD K d.name d.qual d.params d.body d.scope (d.dvs K) [] (d.at_ K) fd := by
  obtain ⟨kp, c2⟩ := ba c
  unfold fnH at e
  cases q : K.lookup (d.at_ K) with
  | none =>
    rw [q] at c2
    cases c2
  | some o =>
    obtain ⟨oc, od, dt, osl⟩ := o
    rw [q] at c2 e
    cases dt with
    | func fd =>
      obtain ⟨n1, n2, n3, n4, n5, n6, n7, n8, n9, n10, n11, n12, n13, n14, n15⟩ := fd
      have e2 : (some (n1, n2, n3, n4, n5, n6, n7.map fun q => (q.1, 0), n15) : He.FnW) = some (d.name, d.qual, d.params, .stmts d.body, d.scope, mainGlobals, (match d.clo with | true => [("__class__", 0)] | false => []), builtinsNs) := e
      rw [cl] at e2
      simp only [Option.some.injEq, Prod.mk.injEq, List.map_eq_nil_iff] at e2
      obtain ⟨h1, h2, h3, h4, h5, h6, h7, h8⟩ := e2
      subst h1 h2 h3 h4 h5 h6 h7 h8
      have c3 : (PySem.W.codeIn K n13 d.qual && (He.dflB K n8 (d.dvs K) && (!d.clo || cellB K (ccA K (d.at_ K))))) = true := c2
      obtain ⟨k1, k2⟩ := ba c3
      obtain ⟨k3, k4⟩ := ba k2
      exact ⟨_, ⟨oc, od, n8, n9, n10, n11, n12, n13, n14, osl, rfl, q, k1, He.dflB_ok k3, .inl rfl⟩, kp⟩
    | _ => cases c2
theorem DefH.funC {K : PySem.W.Frag} {d : DefH} (e : fnH K (d.at_ K) = d.val) (c : d.ok K = true) (cl : d.clo = true) : ∃ fd, FunC K d.name d.qual d.params d.body d.scope (d.dvs K) (d.at_ K) (cdA K (d.at_ K)) (ccA K (d.at_ K)) fd ∧ PySem.W.keepIn K (.ref (d.at_ K)) = true := by
  obtain ⟨kp, c2⟩ := ba c
  unfold fnH at e
  cases q : K.lookup (d.at_ K) with
  | none =>
    rw [q] at c2
    cases c2
  | some o =>
    obtain ⟨oc, od, dt, osl⟩ := o
    rw [q] at c2 e
    cases dt with
    | func fd =>
      obtain ⟨n1, n2, n3, n4, n5, n6, n7, n8, n9, n10, n11, n12, n13, n14, n15⟩ := fd
      have e2 : (some (n1, n2, n3, n4, n5, n6, n7.map fun q => (q.1, 0), n15) : He.FnW) = some (d.name, d.qual, d.params, .stmts d.body, d.scope, mainGlobals, (match d.clo with | true => [("__class__", 0)] | false => []), builtinsNs) := e
      rw [cl] at e2
      simp only [Option.some.injEq, Prod.mk.injEq] at e2
      obtain ⟨h1, h2, h3, h4, h5, h6, h7, h8⟩ := e2
      have c3 : (PySem.W.codeIn K n13 d.qual && (He.dflB K n8 (d.dvs K) && (!d.clo || cellB K (ccA K (d.at_ K))))) = true := c2
      obtain ⟨k1, k2⟩ := ba c3
      obtain ⟨k3, k4⟩ := ba k2
      rw [cl] at k4
      have k5 : cellB K (ccA K (d.at_ K)) = true := k4
      obtain ⟨cda, rfl⟩ := He.codeIn_ref k1
      match n7, h7 with
      | [(x, cc)], h7 =>
        have hx : x = "__class__" := by
          have := (List.cons.inj h7).1
          exact (Prod.mk.inj this).1
        subst hx h1 h2 h3 h4 h5 h6 h8
        have z1 : ccA K (d.at_ K) = cc := by
          unfold ccA
          rw [q]
        have z2 : cdA K (d.at_ K) = cda := by
          unfold cdA
          rw [q]
        rw [z1] at k5
        rw [z1, z2]
        refine ⟨_, ⟨⟨oc, od, n8, n9, n10, n11, n12, n14, osl, rfl, q, k1, He.dflB_ok k3⟩, ?_⟩, kp⟩
        unfold cellB at k5
        split at k5
        · rename_i a b v c2 z
          exact ⟨_, _, _, _, z⟩
        · cases k5
      | [], h7 => cases h7
      | _ :: _ :: _, h7 => exact absurd (congrArg List.length h7) (by simp)
    | _ => cases c2
/-! ### classes -/
def eqB (K : PySem.W.Frag) (C : Addr) : Bool := eqO (PySem.W.findIn K (.ref C) "__eq__") (some (some (.ref (ma K C "__eq__")))) && (PySem.W.isFn K (.ref (ma K C "__eq__")) && (eqO (PySem.W.findIn K (.ref C) "__ne__") (some (some (.builtin "object.__ne__"))) && decide (PySem.W.mroIn K C (.type "object") = some true)))
theorem eqB_ok {K : PySem.W.Frag} {C : Addr} (h : eqB K C = true) : EqC K C (ma K C "__eq__") := by
  obtain ⟨h1, h⟩ := ba h
  obtain ⟨h2, h⟩ := ba h
  obtain ⟨h3, h4⟩ := ba h
  exact ⟨eqO_ok h1, h2, eqO_ok h3, of_decide_eq_true h4⟩
def strB (K : PySem.W.Frag) (C : Addr) : Bool := eqO (PySem.W.findIn K (.ref C) "__str__") (some (some (.ref (ma K C "__str__")))) && PySem.W.isFn K (.ref (ma K C "__str__"))
theorem strB_ok {K : PySem.W.Frag} {C : Addr} (h : strB K C = true) : StrC K C (ma K C "__str__") := ⟨eqO_ok (ba h).1, (ba h).2⟩
/-- the getter of a property -/
def pgA (K : PySem.W.Frag) (C : Addr) (f : Str) : Addr := match PySem.W.recIn K (ma K C f) "property" with
  | some (.ref g :: _) => g
  | _ => 0
def propB (K : PySem.W.Frag) (C : Addr) (f : Str) : Bool := eqO (PySem.W.findIn K (.ref C) f) (some (some (.ref (ma K C f)))) && (eqO (PySem.W.specialIn K (.ref (ma K C f)) "__get__") (some (some (.builtin "property.__get__"))) &&
  (decide (PySem.W.takesIn K (.ref (ma K C f)) = some true) && (match PySem.W.recIn K (ma K C f) "property" with
    | some (.ref _ :: _) => true
    | _ => false)))
theorem propB_ok {K : PySem.W.Frag} {C : Addr} {f : Str} (h : propB K C f = true) : PropOf K C f (ma K C f) (pgA K C f) := by
  obtain ⟨h1, h⟩ := ba h
  obtain ⟨h2, h⟩ := ba h
  obtain ⟨h3, h4⟩ := ba h
  refine ⟨eqO_ok h1, eqO_ok h2, of_decide_eq_true h3, ?_⟩
  unfold pgA
  split at h4
  · rename_i g r e
    exact ⟨r, by rw [e]⟩
  · cases h4
theorem cread_ok {K : PySem.W.Frag} {C : Addr} (h : PySem.W.readsIn K C (.type "type") = true) : ClX.CRead K C (.type "type") := by
  refine ⟨h, ?_⟩
  unfold PySem.W.readsIn at h
  obtain ⟨h, _⟩ := ba h
  obtain ⟨h, _⟩ := ba h
  obtain ⟨h, h3⟩ := ba h
  obtain ⟨_, h2⟩ := ba h
  unfold PySem.W.specialIn
  rw [beq_iff_eq.mp h2, Option.bind_some]
  exact beq_iff_eq.mp h3
/-- a classmethod's def -/
abbrev cmA (K : PySem.W.Frag) (C : Addr) (m : Str) : Addr := He5.wf K C "classmethod" m
abbrev smA (K : PySem.W.Frag) (C : Addr) (m : Str) : Addr := He5.wf K C "staticmethod" m
def cmB (K : PySem.W.Frag) (C : Addr) (m : Str) : Bool := He5.wrapB K C "classmethod" "classmethod.__get__" m && PySem.W.fnIn K (cmA K C m)
theorem cmB_ok {K : PySem.W.Frag} {C : Addr} {m : Str} (h : cmB K C m = true) : ClX.CMet K C (.type "type") m (ma K C m) (cmA K C m) := He5.cmet_of (ba h).1 (ba h).2
def cvalB (K : PySem.W.Frag) (C : Addr) (f : Str) (v : He.Dv) : Bool := match PySem.W.findCls K (.ref C) (.type "type") f with
  | some (.val u) => relB (v.v K) u
  | _ => false
theorem cvalB_ok {K : PySem.W.Frag} {C : Addr} {f : Str} {v : He.Dv} (h : cvalB K C f v = true) : ∃ u, ClX.CVal K C (.type "type") f (v.v K) u := by
  unfold cvalB at h
  split at h
  · rename_i u e
    exact ⟨u, e, relB_ok h⟩
  · cases h
/-- what isinstance asks of the class of an instance -/
structure InsK (K : PySem.W.Frag) (C : Addr) : Prop where
  cl : Cls K C
  ha : PySem.W.findIn K (.ref C) "__class__" = some (some (.builtin "object.__class__"))
  hn : PySem.W.specialIn K (.builtin "object.__class__") "__get__" = some (some (.builtin "getset_descriptor.__get__"))
  tk : PySem.W.takesIn K (.builtin "object.__class__") = some true
  ob : PySem.W.mroIn K C (.type "object") = some true
theorem InsK.ty {K : PySem.W.Frag} {H : Hp} {a C dx : Addr} {fs : List (Str × V)} (c : InsK K C) (e : H a = some (.ins C dx fs)) : TyX K H (.ref a) (.ref C) := .base (.ins e c.cl c.ha c.hn c.tk c.ob)
def insB (K : PySem.W.Frag) (C : Addr) : Bool := PySem.W.plainGet K C Str.empty && (PySem.W.hasDictIn K C && (PySem.W.plainOver K C && (eqO (PySem.W.findIn K (.ref C) "__setattr__") (some (some (.builtin "object.__setattr__"))) &&
  (eqO (PySem.W.findIn K (.ref C) "__class__") (some (some (.builtin "object.__class__"))) && (eqO (PySem.W.specialIn K (.builtin "object.__class__") "__get__") (some (some (.builtin "getset_descriptor.__get__"))) &&
  (decide (PySem.W.takesIn K (.builtin "object.__class__") = some true) && decide (PySem.W.mroIn K C (.type "object") = some true)))))))
theorem insB_ok {K : PySem.W.Frag} {C : Addr} (h : insB K C = true) : InsK K C := by
  obtain ⟨h1, h⟩ := ba h
  obtain ⟨h2, h⟩ := ba h
  obtain ⟨h3, h⟩ := ba h
  obtain ⟨h4, h⟩ := ba h
  obtain ⟨h5, h⟩ := ba h
  obtain ⟨h6, h⟩ := ba h
  obtain ⟨h7, h8⟩ := ba h
  exact ⟨⟨h1, h2, h3, eqO_ok h4⟩, eqO_ok h5, eqO_ok h6, of_decide_eq_true h7, of_decide_eq_true h8⟩
/-- isinstance's answers, of the classes and types named -/
def kitB (K : PySem.W.Frag) (t c : Value) (b : Bool) : Bool := decide (PySem.W.kitOne K t c = some b)
theorem kitB_ok {K : PySem.W.Frag} {t c : Value} {b : Bool} (h : kitB K t c b = true) : PySem.W.kitOne K t c = some b := of_decide_eq_true h
/-- the types that values have here -/
def tys : List Value := [.type "NoneType", .type "bool", .type "int", .type "str", .type "list", .type "tuple", .type "dict"]
/-- no value of a built-in type is one of C -/
def farB (K : PySem.W.Frag) (C : Addr) : Bool := tys.all fun t => kitB K t (.ref C) false
/-- no built-in type is an heir of C (for == of C) -/
def nfB (K : PySem.W.Frag) (C : Addr) : Bool := tys.all fun t => PySem.W.notFirst K C t
/-! ### super() -/
def supB (P : Program) (K : PySem.W.Frag) (f D C : Addr) (selfN name : Str) : Bool := (match K.lookup f with
    | some ⟨_, _, .func fd, _⟩ => (match (fd.params.posonlyargs ++ fd.params.args).head? with
      | some ar => decide (ar.arg = selfN)
      | none => false)
    | _ => false) && ((match K.lookup (cdA K f) with
    | some ⟨_, _, .fields vs, _⟩ => (match (vs[2]? : Option Value) with
      | some (Value.str file _) => (P.main.file : Str) == file
      | _ => false)
    | _ => false) && ((match K.lookup (ccA K f) with
    | some ⟨_, _, .cell (some (.ref D')), _⟩ => decide (D' = D)
    | _ => false) && ((PySem.W.clsIn K D).isSome && (decide (PySem.W.mroIn K C (.ref D) = some true) && (eqO (PySem.W.nsIn K cStatics "thirdparty.any") (some none) && (match PySem.W.ks_superIn K C D name with
    | some (some (.ref g)) => decide (PySem.W.typeIn K (.ref g) = some (.type "function")) && PySem.W.fnIn K g
    | _ => false))))))
/-- the method above -/
def upA (K : PySem.W.Frag) (C D : Addr) (name : Str) : Addr := match PySem.W.ks_superIn K C D name with
  | some (some (.ref g)) => g
  | _ => 0
theorem supB_ok {P : Program} {K : PySem.W.Frag} {f D C : Addr} {selfN name : Str} (h : supB P K f D C selfN name = true) (top : (P.main.scope.names.lookup ("super" : Str)).isSome = false) : SupF P K f (cdA K f) (ccA K f) D C (upA K C D name) selfN name := by
  obtain ⟨h1, h⟩ := ba h
  obtain ⟨h2, h⟩ := ba h
  obtain ⟨h3, h⟩ := ba h
  obtain ⟨h4, h⟩ := ba h
  obtain ⟨h5, h⟩ := ba h
  obtain ⟨h6, h7⟩ := ba h
  have e1 : ∃ oc od fd osl ar, K.lookup f = some ⟨oc, od, .func fd, osl⟩ ∧ (fd.params.posonlyargs ++ fd.params.args).head? = some ar ∧ ar.arg = selfN := by
    split at h1
    · rename_i oc od fd osl e
      split at h1
      · rename_i ar ea
        exact ⟨oc, od, fd, osl, ar, e, ea, of_decide_eq_true h1⟩
      · cases h1
    · cases h1
  have e2 : ∃ a b vs c file tf, K.lookup (cdA K f) = some ⟨a, b, .fields vs, c⟩ ∧ vs[2]? = some (.str file tf) ∧ ((P.main.file : Str) == file) = true := by
    split at h2
    · rename_i a b vs c e
      split at h2
      · rename_i file tf ef
        exact ⟨a, b, vs, c, file, tf, e, ef, h2⟩
      · cases h2
    · cases h2
  have e3 : ∃ a b c, K.lookup (ccA K f) = some ⟨a, b, .cell (some (.ref D)), c⟩ := by
    split at h3
    · rename_i a b D' c e
      rw [of_decide_eq_true h3] at e
      exact ⟨a, b, c, e⟩
    · cases h3
  have e4 : ∃ cd, PySem.W.clsIn K D = some cd := Option.isSome_iff_exists.mp h4
  have e7 : PySem.W.ks_superIn K C D name = some (some (.ref (upA K C D name))) ∧ PySem.W.typeIn K (.ref (upA K C D name)) = some (.type "function") ∧ PySem.W.fnIn K (upA K C D name) = true := by
    unfold upA
    split at h7
    · rename_i g e
      rw [e]
      exact ⟨rfl, of_decide_eq_true (ba h7).1, (ba h7).2⟩
    · cases h7
  exact ⟨e1, e2, e3, e4, of_decide_eq_true h5, eqO_ok h6, e7.1, e7.2.1, e7.2.2, top⟩
/-! ### the Hook -/
abbrev AlH : Type := He.AlD × Bool
def obsH (fa : List Fa) (fn : List DefH) (ex : PySem.W.Frag → Bool) (K : PySem.W.Frag) : AlH := (((fa.all fun f => f.ok K) && fn.all fun d => d.ok K, fn.map fun d => fnH K (d.at_ K)), ex K)
def valH (fn : List DefH) : AlH := ((true, fn.map DefH.val), true)
def SaysH (fa : List Fa) (fn : List DefH) (ex : PySem.W.Frag → Bool) (K : PySem.W.Frag) : Prop := obsH fa fn ex K = valH fn
def obsHG (n : Nat) (fa : List Fa) (fn : List DefH) (ex : PySem.W.Frag → Bool) (g : Addr → Option Obj) : AlH := obsH fa fn ex (He.frG g (He.asD g n ++ [sysModules, cStatics]))
def hookH (n : Nat) (fa : List Fa) (fn : List DefH) (ex : PySem.W.Frag → Bool) : PySem.W.Hook where
  α := AlH
  obs := fun s => obsHG n fa fn ex s.heap.get?
  val := fun _ => valH fn
  says := fun _ h => ∃ K : PySem.W.Frag, K.In h ∧ SaysH fa fn ex K
  of := fun _ _ e => ⟨_, He.frG_in, e⟩
  keeps := fun _ _ _ ⟨K, hK, c⟩ k => ⟨K, PySem.W.Frag.In.keeps hK k, c⟩
theorem obsHG_eq {n : Nat} {fa : List Fa} {fn : List DefH} {ex : PySem.W.Frag → Bool} {g : Addr → Option Obj} {s : Shared} (h : ∀ a, g a = s.heap.get? a) : obsHG n fa fn ex g = (hookH n fa fn ex).obs s := by
  have e : g = s.heap.get? := funext h
  rw [e] <;> rfl
section
variable {fa : List Fa} {fn : List DefH} {ex : PySem.W.Frag → Bool} {K : PySem.W.Frag}
theorem SaysH.also (c : SaysH fa fn ex K) : ex K = true := congrArg (fun z : AlH => z.2) c
theorem SaysH.fact (c : SaysH fa fn ex K) {f : Fa} (h : f ∈ fa) : f.ok K = true := by
  have c1 := (ba (show ((fa.all fun f => f.ok K) && fn.all fun d => d.ok K) = true from congrArg (fun z : AlH => z.1.1) c)).1
  exact List.all_eq_true.mp c1 f h
theorem SaysH.two (c : SaysH fa fn ex K) {d : DefH} (h : d ∈ fn) : fnH K (d.at_ K) = d.val ∧ d.ok K = true := by
  have c2 := (ba (show ((fa.all fun f => f.ok K) && fn.all fun d => d.ok K) = true from congrArg (fun z : AlH => z.1.1) c)).2
  refine ⟨?_, List.all_eq_true.mp c2 d h⟩
  obtain ⟨i, hi⟩ := List.getElem?_of_mem h
  have e : fn.map (fun d => fnH K (d.at_ K)) = fn.map DefH.val := congrArg (fun z : AlH => z.1.2) c
  have e2 : (fn.map fun d => fnH K (d.at_ K))[i]? = (fn.map DefH.val)[i]? := by rw [e]
  rw [List.getElem?_map, List.getElem?_map, hi] at e2
  exact Option.some.inj e2
theorem SaysH.fun_ (c : SaysH fa fn ex K) {d : DefH} (h : d ∈ fn) (cl : d.clo = false := by rfl) : ∃ fd, FunD K d.name d.qual d.params d.body d.scope (d.dvs K) [] (d.at_ K) fd := DefH.funD (c.two h).1 (c.two h).2 cl
theorem SaysH.funC (c : SaysH fa fn ex K) {d : DefH} (h : d ∈ fn) (cl : d.clo = true := by rfl) : ∃ fd, FunC K d.name d.qual d.params d.body d.scope (d.dvs K) (d.at_ K) (cdA K (d.at_ K)) (ccA K (d.at_ K)) fd ∧ PySem.W.keepIn K (.ref (d.at_ K)) = true := DefH.funC (c.two h).1 (c.two h).2 cl
end
end Hx
end
section
set_option maxHeartbeats 4000000
/-! repr of data: None, truths, ints, texts, lists, tuples, dicts with int and text keys. -/
namespace Tx
open PySem PySem.Spec PyProof.Rows L2
/-- a key as data -/
def keyD : L2.Key → PyData
  | .inl i => .int i
  | .inr x => .str x
mutual
/-- a value that is data (dicts too) -/
inductive Dr (K : PySem.W.Frag) (H : Hp) : V → PyData → Prop
  | non : Dr K H .non .none
  | bl (b : Bool) : Dr K H (.bl b) (.bool b)
  | int (i : Int) : Dr K H (.int i) (.int i)
  | str (x : Str) : Dr K H (.str x) (.str x)
  | lst {a : Addr} {xs : List V} {ds : List PyData} : SqL K H a xs → DrAll K H xs ds → Dr K H (.ref a) (.list ds)
  | tup {a : Addr} {xs : List V} {ds : List PyData} : SqT K H a xs → DrAll K H xs ds → Dr K H (.ref a) (.tuple ds)
  | dic {a : Addr} {kvs : List (L2.Key × V)} {ds : List (PyData × PyData)} : H a = some (.dK kvs) → DrKv K H kvs ds → Dr K H (.ref a) (.dict ds)
inductive DrAll (K : PySem.W.Frag) (H : Hp) : List V → List PyData → Prop
  | nil : DrAll K H [] []
  | cons {v : V} {vs : List V} {d : PyData} {ds : List PyData} : Dr K H v d → DrAll K H vs ds → DrAll K H (v :: vs) (d :: ds)
inductive DrKv (K : PySem.W.Frag) (H : Hp) : List (L2.Key × V) → List (PyData × PyData) → Prop
  | nil : DrKv K H [] []
  | cons {k : L2.Key} {v : V} {kvs : List (L2.Key × V)} {d : PyData} {ds : List (PyData × PyData)} : Dr K H v d → DrKv K H kvs ds → DrKv K H ((k, v) :: kvs) ((keyD k, d) :: ds)
end
/-- the table of the modules is one of the written things -/
def SysIn (K : PySem.W.Frag) : Prop := ∃ o, K.lookup sysModules = some o ∧ o.cls = .type "dict"
theorem key_reads {h : Heap} {k : L2.Key} {v : Value} (e : keyIs k v = true) : Reads h v (keyD k) [] := by
  rcases keyIs_shape e with ⟨i, t, rfl, rfl⟩ | ⟨y, t, rfl, rfl⟩
  · exact Reads.int i t
  · exact Reads.str y t
section
variable {X : Cx} {pins : List (Addr × Obj)} {σ : L2.St} {H : Hp} {s : Shared}
theorem sys_ne (I : Inv X pins σ H s) (hS : SysIn X.K) {a : Addr} {o : Obj} (ho : s.heap.get? a = some o) (hc : o.cls ≠ .type "dict") : a ≠ sysModules := fun e => by
  obtain ⟨q, lk, cls⟩ := hS
  have z := I.kIn _ _ lk
  rw [← e, ho] at z
  cases z
  exact hc cls
mutual
theorem Dr.reads (I : Inv X pins σ H s) (hS : SysIn X.K) : ∀ (d : PyData) (v : V) (u : Value), Dr X.K H v d → RelV v u → ∃ as, Reads s.heap u d as ∧ sysModules ∉ as
  | .none, _, _, h, r => by
    cases h
    cases r
    exact ⟨_, Reads.none, by simp⟩
  | .bool b, _, _, h, r => by
    cases h
    cases r
    exact ⟨_, Reads.bool b, by simp⟩
  | .int i, _, _, h, r => by
    cases h
    obtain ⟨t, rfl⟩ := r
    exact ⟨_, Reads.int i t, by simp⟩
  | .str x, _, _, h, r => by
    cases h
    obtain ⟨t, rfl⟩ := r
    exact ⟨_, Reads.str x t, by simp⟩
  | .list ds, _, _, h, r => by
    cases h with
    | lst hs ha =>
      cases r
      obtain ⟨its, rv, ⟨o, n, ho, hc, _, hd⟩, _⟩ := I.list hs
      obtain ⟨as, hr, hn⟩ := Dr.readsAll I hS ds _ its ha rv
      have ne := sys_ne I hS ho (by rw [hc]; decide)
      exact ⟨_, Reads.list ho hc hd hr, fun z => by
        rcases List.mem_cons.mp z with z | z
        · exact ne z.symm
        · exact hn z⟩
  | .tuple ds, _, _, h, r => by
    cases h with
    | tup hs ha =>
      cases r
      obtain ⟨its, rv, ⟨o, ho, hc, n, hd⟩, _⟩ := I.tuple hs
      obtain ⟨as, hr, hn⟩ := Dr.readsAll I hS ds _ its ha rv
      exact ⟨_, Reads.tuple ho hc hd hr, hn⟩
  | .dict ds, _, _, h, r => by
    cases h with
    | dic hk hv =>
      cases r
      obtain ⟨_, sm, vs, kv, o, es, ep, ho, hx, hd, _, pr, _⟩ := I.hok _ _ hk
      obtain ⟨as, bs, r1, r2, n1, n2⟩ := Dr.readsKv I hS ds _ vs es.toList hv kv pr
      exact ⟨_, Reads.dict ho hx.1 hd r1 r2, fun z => by
        rcases List.mem_append.mp z with z | z
        · rcases List.mem_cons.mp z with z | z
          · rw [z] at sm
            simp at sm
          · exact n1 z
        · exact n2 z⟩
theorem Dr.readsAll (I : Inv X pins σ H s) (hS : SysIn X.K) : ∀ (ds : List PyData) (vs : List V) (us : List Value), DrAll X.K H vs ds → Vals vs us → ∃ as, ReadsAll s.heap us ds as ∧ sysModules ∉ as
  | [], _, _, h, r => by
    cases h
    cases r
    exact ⟨_, ReadsAll.nil, by simp⟩
  | d :: ds, _, _, h, r => by
    cases h with
    | cons h1 h2 =>
      cases r with
      | cons r1 r2 =>
        obtain ⟨as, q1, n1⟩ := Dr.reads I hS d _ _ h1 r1
        obtain ⟨bs, q2, n2⟩ := Dr.readsAll I hS ds _ _ h2 r2
        exact ⟨_, ReadsAll.cons q1 q2, fun z => (List.mem_append.mp z).elim n1 n2⟩
theorem Dr.readsKv (I : Inv X pins σ H s) (hS : SysIn X.K) : ∀ (ds : List (PyData × PyData)) (kvs : List (L2.Key × V)) (vs : List (L2.Key × Value)) (es : List DictEntry), DrKv X.K H kvs ds → KV kvs vs → Pairs (mixKind X.prog X.w) es vs →
    ∃ as bs, ReadsAll s.heap (es.map (·.key)) (ds.map (·.1)) as ∧ ReadsAll s.heap (es.map (·.val)) (ds.map (·.2)) bs ∧ sysModules ∉ as ∧ sysModules ∉ bs
  | [], _, _, _, h, r, p => by
    cases h
    cases r
    cases p
    exact ⟨_, _, ReadsAll.nil, ReadsAll.nil, by simp, by simp⟩
  | d :: ds, _, _, _, h, r, p => by
    cases h with
    | cons h1 h2 =>
      cases r with
      | cons r1 r2 =>
        obtain ⟨ek, rv⟩ := r1
        cases p with
        | cons p1 pv p2 =>
          obtain ⟨as, bs, q1, q2, n1, n2⟩ := Dr.readsKv I hS ds _ _ _ h2 r2 p2
          obtain ⟨cs, q3, n3⟩ := Dr.reads I hS _ _ _ h1 rv
          have k1 : Reads s.heap _ (keyD _) [] := key_reads (h := s.heap) p1
          rw [← pv] at q3
          rw [← ek] at k1
          exact ⟨_, _, ReadsAll.cons k1 q1, ReadsAll.cons q3 q2, n1, fun z => (List.mem_append.mp z).elim n3 n2⟩
end
end
/-- what repr(v) asks -/
def rRepr (K : PySem.W.Frag) : List V → Hp → VK → Prop := fun vs H Q => ∃ (v : V) (d : PyData), vs = [v] ∧ Dr K H v d ∧ d.showable = true ∧ d.depth ≤ 60 ∧ d.shown.length ≤ sizeLine ∧ Q (.str d.shown) H
section
variable {X : Cx}
theorem call_reprD (gd : X.A.guards = some []) (hu : X.A.units + 64 < cLine) (hS : SysIn X.K) : CallR X (.builtin "repr") (rRepr X.K) := by
  intro pins s σ H vs us Q I r h
  obtain ⟨v, d, rfl, hd, sh, dep, sz, q⟩ := h
  obtain ⟨u, rfl, ru⟩ := Vals.one r
  obtain ⟨as, rd, nm⟩ := Dr.reads I hS d v u hd ru
  cases hd with
  | non =>
    cases ru
    exact PySem.P.repr_of_none ⟨.str "None", H, I.tok _, ⟨_, rfl⟩, q⟩
  | bl b =>
    cases ru
    exact PySem.P.repr_of_bool ⟨.str (if b then "True" else "False"), H, I.tok _, ⟨_, rfl⟩, q⟩
  | int i =>
    obtain ⟨t, rfl⟩ := ru
    exact PySem.P.repr_of_int (of_decide_eq_true sh) ⟨.str (toString i), H, I.tok _, ⟨_, rfl⟩, q⟩
  | str x =>
    obtain ⟨t, rfl⟩ := ru
    exact PySem.P.repr_of_str ⟨.str (reprText x), H, I.tok _, ⟨_, rfl⟩, q⟩ sz
  | lst hs ha =>
    cases ru
    exact repr_of_reads' rd sh (fun _ => nm) gd (by omega) (fun _ _ e => e) (fun h' u tk hk => ⟨.str _, H, I.kept hk, ⟨_, rfl⟩, q⟩) sz
  | tup hs ha =>
    cases ru
    exact repr_of_reads' rd sh (fun _ => nm) gd (by omega) (fun _ _ e => e) (fun h' u tk hk => ⟨.str _, H, I.kept hk, ⟨_, rfl⟩, q⟩) sz
  | dic hs ha =>
    cases ru
    exact repr_of_reads' rd sh (fun _ => nm) gd (by omega) (fun _ _ e => e) (fun h' u tk hk => ⟨.str _, H, I.kept hk, ⟨_, rfl⟩, q⟩) sz
end
end Tx
end
section
set_option maxHeartbeats 4000000
/-! Own errors as values: made by position and by keywords, their fields read, isinstance. -/
namespace PySem
namespace TxX
open PySem.W PySem.Calls PyProof.Rows PySem.HandSPX Builtin Builtin.ObjectAttr
section
variable {prog : Program} {w : World} {A : Around} {E : Value → Shared → Prop} {R : Result → Shared → Prop} {h : Heap} {g : Array GenState} {d : Drawn} {t : Nat} {os : OsState}
variable {nm q : Str} {C N : Addr} {bs bm bmB : List Value} {hdct : Bool} {sn : List Str} {sub : List Value} {ab : Bool} {col : Option Bool} {dd : Option Addr} {k0 k1 k2 k3 k5 : Option Value} {B newId initId : String}
/-- the check ahead of the maker, with keywords -/
theorem checkK {M : Model} (F : ExcBaseFacts B newId initId bmB) (same : ∀ X : String, bm.contains (.type X) = bmB.contains (.type X)) {rest : List Value} {kw : List (Str × Value)} {Q : Unit → Shared → Prop}
    (hC : h.get? C = some (excClassObj nm q C N bs bm hdct sn sub ab col dd k0 k1 k2 k3 k5 newId)) (fin : Q () ⟨h, g, d, t, os⟩) : wpAny M A (checkBuiltinCall newId ⟨.ref C :: rest, kw⟩) Q E ⟨h, g, d, t, os⟩ := by
  have isB : (Value.ref C :: bm).contains (.type B) = true := by
    rw [List.contains_cons, same, F.hasB]
    exact Bool.or_true _
  have star := F.noStar
  simp only [checkBuiltinCall, F.newKind, F.newSplit, F.newRow]
  repeat (first
    | refine wpAny_loadPart_at hC ?_
    | (refine wpAny_isSubtype_exc hC ?_; rw [isB])
    | refine wpAny_staticBase_exc hC ?_
    | refine wpAny_madeBy_exc hC ?_
    | simp only [bne_self_eq_false, Bool.false_eq_true, if_false]
    | wp_step)
  exact fin
/-- the maker, with keywords -/
theorem newK (F : ExcBaseFacts B newId initId bmB) (same : ∀ X : String, bm.contains (.type X) = bmB.contains (.type X)) {rest : List Value} {kw : List (Str × Value)}
    (hC : h.get? C = some (excClassObj nm q C N bs bm hdct sn sub ab col dd k0 k1 k2 k3 k5 newId)) (short : rest.length ≤ sizeLine)
    (fin : R (.ok (.ret (.ref (h.objs.size + 1)))) ⟨(h.push (kdv_tup rest)).push (excO C h.objs.size), g, d, t, os⟩) :
    codeAny (model prog w) A (.builtin newId ⟨.ref C :: rest, kw⟩) R ⟨h, g, d, t, os⟩ := by
  have e0 := F.ends
  have isB : (Value.ref C :: bm).contains (.type B) = true := by
    rw [List.contains_cons, same, F.hasB]
    exact Bool.or_true _
  have isA : (Value.ref C :: bm).contains (.type "AttributeError") = false := by
    rw [List.contains_cons, same, F.noAttr]
    rfl
  have isN : (Value.ref C :: bm).contains (.type "NameError") = false := by
    rw [List.contains_cons, same, F.noName]
    rfl
  refine codeAny_builtinAt F.entry ?_
  unfold Builtin.«BaseException.__new__»
  refine wpAt_bind ?_
  show wpAt _ _ _ (stack >>= _) _ _ _
  refine wpAt_bind (wpAt_stack fun p below => wpAt_of_wpAny ?_)
  wp_walk
  refine wpAt_of_wpAny ?_
  rw [F.owner]
  repeat (first
    | with_reducible refine wpAny_madeHere_exc F.canon hC ?_
    | with_reducible refine wpAny_loadPart_at hC ?_
    | (with_reducible refine wpAny_isSubtype_exc hC ?_
       first | rw [isB] | rw [isA] | rw [isN])
    | wp_step)
  show R _ _
  rw [Heap.size_push]
  exact fin
/-- C(.., k = v): the maker, then the own __init__ -/
theorem typeCallK (F : ExcBaseFacts B newId initId bmB) (same : ∀ X : String, bm.contains (.type X) = bmB.contains (.type X)) {rest : List Value} {kw : List (Str × Value)} {fI : Addr} {Q : Fin → Shared → Prop}
    (hC : h.get? C = some (excClassObj nm q C N bs bm hdct sn sub ab col dd k0 k1 k2 k3 k5 newId))
    (hi : Looks (model prog w) h (typeLookup (.ref C) "__init__") (some (.ref fI))) (hb : ∀ self, Looks (model prog w) h (bindSpecial (.ref fI) self) (.ref fI, [self])) (short : rest.length ≤ sizeLine)
    (fin : codeAny (model prog w) A (.call (.ref fI) ⟨.ref (h.objs.size + 1) :: rest, kw⟩)
      (fun r s' => match r with | .ok (.ret v) => v = .none ∧ Q (.done (.ret (.ref (h.objs.size + 1)))) s' | .ok _ => False | .error e => E e s')
      ⟨(h.push (kdv_tup rest)).push (excO C h.objs.size), g, d, t, os⟩) :
    wpAny (model prog w) A (Builtin.«type.__call__» ⟨.ref C :: rest, kw⟩) Q E ⟨h, g, d, t, os⟩ := by
  repeat (first
    | with_reducible refine wpAny_loadPart_at hC ?_
    | with_reducible refine wpAny_madeBy_exc hC ?_
    | wp_step)
  refine codeAny_call_builtin_code (Code.quiet_builtin _ F.quiet) (checkK F same hC ?_)
  refine newK F same hC short ?_
  show wpAny _ _ _ _ _ _
  have old : ∀ b o, h.get? b = some o → ((h.push (kdv_tup rest)).push (excO C h.objs.size)).get? b = some o := fun b o e => by
    exact Heap.get?_push_of_some _ (Heap.get?_push_of_some _ e)
  have atC := old _ _ hC
  have atE : ((h.push (kdv_tup rest)).push (excO C h.objs.size)).get? (h.objs.size + 1) = some (excO C h.objs.size) := by heap_get
  have selfC : (Value.ref C :: bm).contains (.ref C) = true := by simp
  have look := hi.keeps old
  have bnd := (hb (.ref (h.objs.size + 1))).keeps old
  unfold isInstance
  repeat (first
    | with_reducible refine wpAny_loadPart_at atE ?_
    | (with_reducible refine wpAny_isSubtype_exc atC ?_; rw [selfC])
    | wp_step)
  show wpAny _ _ (typeLookup (.ref C) _) _ _ _
  refine look.at ?_
  refine wpAny_holding (wpAny_bind (bnd.at ?_))
  refine wpAny_bind (wpAny_call (codeAny_mono fin fun r s' z => ?_))
  cases r with
  | error e => exact z
  | ok fl =>
    cases fl with
    | ret v =>
      obtain ⟨rfl, z⟩ := z
      first
        | exact wpAny_pure (wpAny_pure z)
        | (wp_walk; exact z)
    | next => exact z.elim
    | brk => exact z.elim
    | cont => exact z.elim
theorem callK (F : ExcBaseFacts B newId initId bmB) (same : ∀ X : String, bm.contains (.type X) = bmB.contains (.type X)) {rest : List Value} {kw : List (Str × Value)} {fI : Addr}
    (hC : h.get? C = some (excClassObj nm q C N bs bm hdct sn sub ab col dd k0 k1 k2 k3 k5 newId))
    (hi : Looks (model prog w) h (typeLookup (.ref C) "__init__") (some (.ref fI))) (hb : ∀ self, Looks (model prog w) h (bindSpecial (.ref fI) self) (.ref fI, [self])) (short : rest.length ≤ sizeLine)
    (fin : codeAny (model prog w) (A.under (.builtin "type.__call__" ⟨.ref C :: rest, kw⟩)) (.call (.ref fI) ⟨.ref (h.objs.size + 1) :: rest, kw⟩) (InitBack (h.objs.size + 1) R)
      ⟨(h.push (kdv_tup rest)).push (excO C h.objs.size), g, d, t, os⟩) :
    codeAny (model prog w) A (.call (.ref C) ⟨rest, kw⟩) R ⟨h, g, d, t, os⟩ := by
  have f1 := tc_lookup
  have f2 := tc_bind (.ref C)
  have ty : (⟨h, g, d, t, os⟩ : Shared).TypeIs (.ref C) "type" := ⟨_, hC, rfl⟩
  refine codeAny_of_tree ?_
  show wpAny _ _ (callAny (.ref C) _) _ _ _
  repeat (any_goals (first
    | assumption
    | with_reducible refine wpAny_loadPart_at hC ?_
    | wp_step))
  refine ⟨rfl, ?_⟩
  refine codeAny_call_builtin_at (Code.quiet_builtin _ (by decide +kernel)) entry_typeCall (wpAny_check_type_call_sub hC (typeCallK F same hC hi hb short ?_))
  refine codeAny_mono fin fun r s' z => ?_
  rcases r with e | (v | _ | _ | _) <;> exact z
end
end TxX
end PySem
namespace PySem.W
open PySem PySem.Spec PySem.Calls PyProof.Rows
section
variable {prog : Program} {w : World} {A : Around} {E : Value → Shared → Prop} {s : Shared} {K : Frag} {x D : Addr} {ox : Obj} {od : Option Obj}
/-- a data descriptor of the class goes ahead of the own dict -/
theorem findObj_dataS {C : Addr} {name : Str} {a g : Value} (hc : (clsIn K C).isSome = true) (ha : findIn K (.ref C) name = some (some a)) (hg : specialIn K a "__get__" = some (some g)) (ht : takesIn K a = some true) : findObj K C od name = some (.bind g a) := by
  obtain ⟨cd, hc⟩ := Option.isSome_iff_exists.mp hc
  unfold findObj
  rw [hc, Option.bind_some, ha, Option.bind_some]
  simp [hg, ht]
/-- error.__class__ -/
theorem class_of_err {Q : Option Value → Shared → Prop} (T : L2.ExcC K D) (X : K.In s.heap) (I : InstAt s.heap x ox D od) (fin : Q (some (.ref D)) { s with toks := s.toks + 1 }) : wpAny (model prog w) A (getAttr? (.ref x) "__class__") Q E s := by
  have found : findObj K D od "__class__" = some (.bind (.builtin "getset_descriptor.__get__") (.builtin "object.__class__")) := findObj_dataS (by
    obtain ⟨cd, hc, _⟩ := any_some T.hd
    rw [hc]
    rfl) T.ha T.hn T.ht
  obtain ⟨hp, g, d, t, os⟩ := s
  have ty := I.type (M := model prog w)
  have l1 := looks_findIn (M := model prog w) X T.hg
  have l2 := looks_findIn (M := model prog w) X T.hk
  have l3 := looks_find (M := model prog w) X I found
  have isE : Looks (model prog w) hp (isInstance (.ref x) (.type "BaseException")) true := ty.andThen (looks_subIn X T.hs)
  have ne : (Value.builtin "BaseException.__getattribute__" == Value.builtin "object.__getattribute__") = false := by decide +kernel
  have own : (onTheHeap (Value.ref D) && Value.builtin "BaseException.__getattribute__" == Value.builtin "object.__getattribute__") = false := by
    rw [ne]
    rfl
  unfold getAttr? getAttrBy? getAttrBy
  refine wpAny_bind (wpAny_mkText (wpAny_bind (wpAny_attempt (wpAny_holding (wpAny_bind (ty.at (wpAny_bind (l1.at ?_))))))))
  show wpAny _ _ (if (onTheHeap (Value.ref D) && Value.builtin "BaseException.__getattribute__" == Value.builtin "object.__getattribute__") = true then _ else _) _ _ _
  rw [own, if_neg Bool.false_ne_true]
  unfold getAttrByItsOwn hookBefore
  refine wpAny_bind ?_
  rw [if_pos (show onTheHeap (Value.ref D) = true from rfl)]
  refine l2.at (wpAny_bind (wpAny_attempt (wpAny_holding ?_)))
  unfold callGetattribute
  rw [show (false && onTheHeap (Value.builtin "BaseException.__getattribute__")) = false from rfl, if_neg Bool.false_ne_true]
  unfold boundAndCalled
  rw [PySem.F.excAttr_ValueError.ga.bind (.ref x)]
  refine wpAny_bind (wpAny_pure ?_)
  show wpAny _ _ (call (.builtin "BaseException.__getattribute__") [.ref x, .str "__class__" t]) _ _ _
  refine wpAny_call (codeAny_call_builtin PySem.F.excAttr_ValueError.ga.plain PySem.F.entry_bexc_ga ?_)
  refine @check_slot (model prog w) _ _ ⟨hp, g, d, t + 1, os⟩ "BaseException.__getattribute__" "BaseException" "__getattribute__" (.ref x) [.str "__class__" t] [] _ (by decide +kernel) (by decide +kernel) isE (PySem.F.args_bexc_ga (.ref x) (.str "__class__" t)) ?_
  unfold Builtin.«object.__getattribute__»
  refine wpAny_bind (wpAny_of_eq (a := ((Value.ref x : Value), [Value.str "__class__" t])) (by first | rfl | (simp only [slotArgs]; rfl)) ?_)
  refine wpAny_bind (wpAny_pure (wpAny_bind (ty.at (wpAny_bind (l3.at ?_)))))
  show wpAny _ _ (holding [Value.builtin "object.__class__"] (call (.builtin "getset_descriptor.__get__") [.builtin "object.__class__", .ref x, .ref D]) >>= ret) _ _ _
  refine wpAny_bind (wpAny_holding (wpAny_call (class_get (s := ⟨hp, g, d, t + 1, os⟩) (ox := ox) (od := od) X I T.hm ?_)))
  refine wpAny_pure ?_
  show wpAny _ _ (handedOut (.ref D)) _ _ _
  rw [handedOut_of (v := .ref D) rfl]
  first
    | exact wpAny_pure (wpAny_pure fin)
    | exact wpAny_pure fin
    | exact wpAny_pure (wpAny_bind (wpAny_pure (wpAny_pure fin)))
theorem kit_err (T : L2.ExcC K D) : KitX K (.ref x) (.ref D) (fun h => ∃ ox od, InstAt h x ox D od) where
  ty := fun _ _ _ ⟨ox, od, I⟩ => I.type
  it := fun _ _ X _ => by
    obtain ⟨cdD, hcD, _⟩ := any_some T.hd
    unfold clsIn at hcD
    split at hcD
    · rename_i c' d' cd' sl' ho
      intro A' Q' E' s' k q
      unfold isType loadHead
      exact wpAny_bind (wpAny_loadPart (k _ _ (X _ _ ho)) (wpAny_pure q))
    · cases hcD
  ne := fun h tp dd its n sl X htp => by
    obtain ⟨cdD, hcD, _⟩ := any_some T.hd
    refine Bool.eq_false_iff.mpr fun q => ?_
    obtain rfl : D = tp := Value.ref.inj (beq_iff_eq.mp q)
    unfold clsIn at hcD
    split at hcD
    · rename_i c' d' cd' sl' ho
      have z := (X _ _ ho).symm.trans htp
      cases z
    · cases hcD
  ca := fun X ⟨ox, od, I⟩ k => class_of_err T X I k
end
end PySem.W
namespace Tx
open PySem PySem.Spec PyProof.Rows L2
section
variable {X : Cx} {pins : List (Addr × Obj)} {σ : L2.St} {H : Hp} {s : Shared}
theorem err_inst {a C : Addr} {d : Option Addr} {fs : List (Str × V)} (I : Inv X pins σ H s) (he : H a = some (exo a C d)) (hd : ∀ dd, d = some dd → H dd = some (exd dd fs)) :
    ∃ ox od, PySem.W.InstAt s.heap a ox C od := by
  obtain ⟨t1, ho⟩ := exo_at I.hok he
  cases d with
  | none => exact ⟨_, none, ho, rfl, rfl, trivial⟩
  | some dd =>
    obtain ⟨mA, hns, _⟩ := exd_at I.hok (hd dd rfl)
    obtain ⟨o, _, _, ho2, _⟩ := hns
    exact ⟨_, some o, ho, rfl, rfl, ho2⟩
end
/-- any object of the class C with the dict d -/
def exg (a C : Addr) (d : Option Addr) : HO := .ext fun h => ∃ (oe : Obj) (vs : Array Value), h.get? a = some oe ∧ oe.cls = .ref C ∧ oe.dict = d ∧ oe.data = .fields vs
theorem exg_ok {P : Program} {w : World} {H : Hp} {h : Heap} {a C : Addr} {d : Option Addr} {oe : Obj} {vs : Array Value} (e : h.get? a = some oe) (c : oe.cls = .ref C) (dd : oe.dict = d) (da : oe.data = .fields vs) : ObjOk P w H h a (exg a C d) :=
  ⟨⟨oe, vs, e, c, dd, da⟩, ⟨oe, e⟩, fun _ _ ⟨o, vs, q, r⟩ k => ⟨o, vs, k o q, r⟩⟩
theorem exg_at {P : Program} {w : World} {H : Hp} {h : Heap} {a C : Addr} {d : Option Addr} (x : HOk P w H h) (e : H a = some (exg a C d)) : ∃ oe : Obj, h.get? a = some oe ∧ oe.cls = .ref C ∧ oe.dict = d ∧ PySem.W.notCls oe = true := by
  obtain ⟨oe, vs, h1, h2, h3, h4⟩ := (x a _ e).1
  refine ⟨oe, h1, h2, h3, ?_⟩
  unfold PySem.W.notCls
  rw [h4]
/-- an error that was caught and is held -/
def ErrX (H : Hp) (a C : Addr) (fs : List (Str × V)) : Prop := ∃ d, H a = some (exg a C d) ∧ ((d = none ∧ fs = []) ∨ ∃ x, d = some x ∧ H x = some (.xd fs))
/-- the error at a: its class, its fields (none: no dict) -/
def Err (H : Hp) (a C : Addr) (fs : List (Str × V)) : Prop := (H a = some (exo a C none) ∧ fs = []) ∨ (∃ d, H a = some (exo a C (some d)) ∧ H d = some (exd d fs)) ∨ ErrX H a C fs
/-- isinstance(e, c), e an error -/
def rIsErr (K : PySem.W.Frag) : List V → Hp → VK → Prop := fun xs H Q => ∃ (a C : Addr) (fs : List (Str × V)) (c : V) (cv : Value) (b : Bool), xs = [.ref a, c] ∧ Err H a C fs ∧ ExcC K C ∧ (∀ u, RelV c u → u = cv) ∧ PySem.W.kitOne K (.ref C) cv = some b ∧ Q (.bl b) H
/-- e.f, e an error -/
def tErrF (K : PySem.W.Frag) (te : TE) (f : Str) : TE := fun σ H Q => te σ H fun x H1 => ∃ (a C : Addr) (fs : List (Str × V)) (v : V), x = .ref a ∧ Err H1 a C fs ∧ ExcC K C ∧ PySem.W.findIn K (.ref C) f = some none ∧ fs.lookup f = some v ∧ Q v H1
section
variable {X : Cx}
theorem call_isErr : CallR X (.builtin "isinstance") (rIsErr X.K) := by
  intro pins s σ H xs us Q I r h
  obtain ⟨a, C, fs, c, cv, b, rfl, he, T, hcv, e, q⟩ := h
  obtain ⟨u, v, rfl, ru, rv⟩ := Vals.two r
  cases ru
  obtain rfl := hcv _ rv
  have J : ∃ ox od, PySem.W.InstAt s.heap a ox C od := by
    rcases he with ⟨he, _⟩ | ⟨d, he, hd⟩ | ⟨d, he, hd⟩
    · exact err_inst (fs := []) I he (fun _ z => nomatch z)
    · exact err_inst I he (fun dd z => by cases z; exact hd)
    · obtain ⟨oe, h1, h2, h3, h4⟩ := exg_at I.hok he
      rcases hd with ⟨rfl, _⟩ | ⟨x, rfl, hx⟩
      · exact ⟨oe, none, h1, h2, h4, by rw [h3]; trivial⟩
      · obtain ⟨mA, ⟨o, es, ep, ho2, _⟩, _⟩ := I.hok x _ hx
        exact ⟨oe, some o, h1, h2, h4, by rw [h3]; exact ho2⟩
  exact PySem.W.kia_one (PySem.W.kit_err T) I.kIn J e (fun z => nomatch z) fun tk => ⟨.bl b, H, I.kept (t' := tk) fun _ _ z => z, rfl, q⟩
theorem pe_errF {e : Expr} {te : TE} {f : Str} {pos : Pos} (he : PE X e te) (hb : attributeBase e f X.env (eval e X.env) = eval e X.env := by rfl) : PE X (.Attribute e f pos) (tErrF X.K te f) := ⟨fun pins s σ H Q I h => by
  refine attr_of hb (thn (he.run pins s σ H _ I h) fun u s1 ⟨x, H1, I1, rx, a, C, fs, v, ex, er, T, hn, l, q⟩ => ?_)
  subst ex
  cases rx
  rcases er with ⟨_, ef⟩ | ⟨d, ha, hd⟩ | ⟨d, ha, ⟨_, ef⟩ | ⟨x, rfl, hx⟩⟩
  · subst ef
    cases l
  rotate_left
  · subst ef
    cases l
  · obtain ⟨oe, h1, h2, h3, h4⟩ := exg_at I1.hok ha
    obtain ⟨mA, hns, rel⟩ := I1.hok x _ hx
    obtain ⟨od, ho2, look⟩ := lookIn_ns hns
    obtain ⟨u, hu, ru⟩ := RelO.some_of (v := v) (o := mA f) (by rw [← l]; exact rel f)
    exact HandSPX.exc_get I1.kIn ⟨h1, h2, h4, by rw [h3]; exact ho2⟩ T.hg T.hk T.hs (PySem.W.findObj_own T.hd hn rfl (by rw [look, hu])) (handed_of ru) ⟨v, H1, I1.tok _, ru, q⟩
  · obtain ⟨t1, ho⟩ := exo_at I1.hok ha
    obtain ⟨mA, hns, rel⟩ := exd_at I1.hok hd
    obtain ⟨od, ho2, look⟩ := lookIn_ns hns
    obtain ⟨u, hu, ru⟩ := RelO.some_of (v := v) (o := mA f) (by rw [← l]; exact rel f)
    exact HandSPX.exc_get I1.kIn ⟨ho, rfl, rfl, ho2⟩ T.hg T.hk T.hs (PySem.W.findObj_own T.hd hn rfl (by rw [look, hu])) (handed_of ru) ⟨v, H1, I1.tok _, ru, q⟩⟩
end
end Tx
end
section
set_option maxHeartbeats 4000000
/-! Own errors made as values. -/
namespace Tx
open PySem PySem.Spec PyProof.Rows L2
/-- C(e, ..): a new error, then its own __init__ -/
def tMkV (C : Addr) (sp : Sp) (ta : TA) : TE := fun σ H Q => ta σ H fun vs H1 => vs.length ≤ 1000 ∧ ∀ a, H1 a = none → sp (.ref a :: vs) (upd H1 a (exo a C none)) (fun v H2 => v = .non ∧ Q (.ref a) H2) (fun _ _ _ => False)
/-- C(k = v, ..) -/
def tMkVK (C : Addr) (sp : Sp) (m : Nat) (gV : List V → List V → List V) (tk : TA) : TE := fun σ H Q => tk σ H fun zs H1 => zs.length = m ∧ ∀ a, H1 a = none → sp (gV [.ref a] zs) (upd H1 a (exo a C none)) (fun v H2 => v = .non ∧ Q (.ref a) H2) (fun _ _ _ => False)
/-- C(), C without an own __init__ -/
def tMkV0 (C : Addr) : TE := fun _ H Q => ∀ a, H a = none → Q (.ref a) (upd H a (exo a C none))
section
variable {X : Cx} {k : Nat} {fI C : Addr} {fd : FuncData} {ps ks : List Str} {sp : Sp} {x : Str} {p pos : Pos} {e : Expr} {es : List Expr} {kws : List Keyword} {ta tk : TA} {g : List Value → List Value → List Value} {gV : List V → List V → List V}
theorem run_mkV {pins : List (Addr × Obj)} {σ : L2.St} {H : Hp} {s : Shared} {Q : VK} {us : List Value} {kw : List (Str × Value)} (T : OexC X.K C) (iC : PySem.W.findIn X.K (.ref C) "__init__" = some (some (.ref fI))) (tI : PySem.W.typeIn X.K (.ref fI) = some (.type "function"))
    (F : FnOk X.prog X.w X.K X.mg X.base CX0 k fI fd ps sp) (room : Room (k + 1) X.A) (I : Inv X pins σ H s) (short : us.length ≤ sizeLine)
    (h : ∀ a, H a = none → ∃ (vs : List V) (bus : List Value), Vals vs bus ∧ (∀ s2 : Shared, X.K.In s2.heap → BindsTo s2 fd ⟨.ref a :: us, kw⟩ (ps.zip bus)) ∧ sp vs (upd H a (exo a C none)) (fun v H2 => v = .non ∧ Q (.ref a) H2) (fun _ _ _ => False)) :
    wpAny (model X.prog X.w) X.A (call (.ref C) us kw) (EP X pins σ Q) X.xe s := by
  obtain ⟨nm, q, N, bs, bm, sn, sub, ab, col, dd, k0, k1, k2, k3, k5, hC, hbm⟩ := T.cls
  obtain ⟨hp, gs, dr, tk, os⟩ := s
  have up : hp.objs.size ≤ hp.objs.size + 1 := Nat.le_succ _
  obtain ⟨vs, bus, rel, bnd, hq⟩ := h (hp.objs.size + 1) (I.hok.fresh up)
  have old : ∀ b o, hp.get? b = some o → ((hp.push (PySem.W.kdv_tup us)).push (PySem.HandSPX.excO C hp.objs.size)).get? b = some o := fun b o z => Heap.get?_push_of_some _ (Heap.get?_push_of_some _ z)
  have new : ((hp.push (PySem.W.kdv_tup us)).push (PySem.HandSPX.excO C hp.objs.size)).get? (hp.objs.size + 1) = some (PySem.HandSPX.excO C hp.objs.size) := by heap_get
  have J : Inv X pins σ (upd H (hp.objs.size + 1) (exo (hp.objs.size + 1) C none)) ⟨(hp.push (PySem.W.kdv_tup us)).push (PySem.HandSPX.excO C hp.objs.size), gs, dr, tk, os⟩ :=
    I.laid (t' := tk) (o := exo (hp.objs.size + 1) C none) old up (exo_ok new)
  refine wpAny_call (PySem.TxX.callK PySem.F.excBase_ValueError (fun Y => PySem.HandSPX.refsVE_contains Y bm hbm) (I.kIn _ _ hC) (PySem.W.looks_findIn I.kIn iC) (fun self => PySem.W.bind_fn I.kIn self tI) short
    (codeAny_mono (F.run _ X.stack _ _ _ bus vs _ _ (room.make C us kw) (J.env0.make C us kw) (bnd _ J.kIn) rel hq) fun r s' got => ?_))
  cases r with
  | error er => exact got.elim
  | ok fl =>
    cases fl with
    | ret u =>
      obtain ⟨v, H2, J2, rv, ev, q2⟩ := J.after got
      subst ev
      exact ⟨rv, ⟨V.ref (hp.objs.size + 1), H2, J2, rfl, q2⟩⟩
    | next => exact got.elim
    | brk => exact got.elim
    | cont => exact got.elim
theorem pe_mkV (T : OexC X.K C) (iC : PySem.W.findIn X.K (.ref C) "__init__" = some (some (.ref fI))) (tI : PySem.W.typeIn X.K (.ref fI) = some (.type "function")) (F : FnOk X.prog X.w X.K X.mg X.base CX0 k fI fd ps sp) (room : Room (k + 1) X.A)
    (bnd : Binds X.K fd ps []) (hg : Gl X x) (hm : X.mg x = some (.ref C)) (args : PA X (e :: es) ta) (ndb : (x == ("__debug__" : Str)) = false := by decide)
    (se : starEach (e :: es) X.env = (false, eval e X.env) :: starEach es X.env := by rfl) (sn : (backTo pos (starEach es X.env)).any (·.1) = false := by rfl) : PE X (.Call (.Name x p) (e :: es) [] pos) (tMkV C sp ta) := ⟨fun pins s σ H Q I h => by
  refine wpAny_Call_Name_kw (ld_glob I hg hm ?_ ndb)
  refine PySem.W.callWith_K (h₀ := X.base) I.ok.mod.kin T.kC (thn (args.run pos pins s σ H _ I h) fun us s1 ⟨vs, H1, I1, rel, short, q⟩ => ⟨I1.kIn, ?_⟩) se sn
  refine run_mkV (us := us) (kw := []) T iC tI F room I1 (by rw [← Paired.length rel, sizeLine_eq]; omega) fun a na => ?_
  refine ⟨.ref a :: vs, .ref a :: us, .cons rfl rel, fun s2 X2 => ?_, q a na⟩
  have l : (Value.ref a :: us ++ []).length = ps.length := by
    have e1 := F.len _ _ _ _ (q a na)
    rw [List.append_nil, ← e1]
    exact congrArg Nat.succ (Paired.length rel).symm
  have b := bnd s2 (Value.ref a :: us) X2 l
  rw [List.append_nil] at b
  exact b⟩
theorem pe_mkVK (T : OexC X.K C) (iC : PySem.W.findIn X.K (.ref C) "__init__" = some (some (.ref fI))) (tI : PySem.W.typeIn X.K (.ref fI) = some (.type "function")) (F : FnOk X.prog X.w X.K X.mg X.base CX0 k fI fd ps sp) (room : Room (k + 1) X.A)
    (bnd : KBn X.K fd ps 1 ks g gV) (hg : Gl X x) (hm : X.mg x = some (.ref C)) (hkw : PK X kws tk) (hall : (backToKw pos (keywordEach kws X.env)).all (·.1.isSome) = true := by rfl) (hks : (backToKw pos (keywordEach kws X.env)).filterMap (·.1) = ks := by rfl)
    (ndb : (x == ("__debug__" : Str)) = false := by decide) (hpl : ((backTo pos (starEach [] X.env)).any (·.1) || (backToKw pos (keywordEach kws X.env)).any (·.1.isNone)) = false := by rfl) : PE X (.Call (.Name x p) [] kws pos) (tMkVK C sp ks.length gV tk) := ⟨fun pins s σ H Q I h => by
  refine wpAny_Call_Name_kw (ld_glob I hg hm ?_ ndb)
  refine PySem.W.callWith_KW0 (h₀ := X.base) I.ok.mod.kin T.kC hall ?_ hpl
  refine thn (hkw.run pos pins s σ H _ I h) fun ws s1 ⟨zs, H1, I1, rel, hz, q⟩ => ⟨I1.kIn, ?_⟩
  rw [hks]
  refine run_mkV (us := []) (kw := ks.zip ws) T iC tI F room I1 (Nat.zero_le _) fun a na => ?_
  exact ⟨gV [.ref a] zs, g [.ref a] ws, bnd.rel (.cons rfl .nil) rel, fun s2 X2 => bnd.to s2 [.ref a] ws X2 rfl (by rw [← Paired.length rel]; exact hz), q a na⟩⟩
theorem pe_mkV0 (q : PySem.W.excIn X.K C He.veBase "ValueError.__new__" = true) (kC : PySem.W.keepIn X.K (.ref C) = true) (hg : Gl X x) (hm : X.mg x = some (.ref C)) (ndb : (x == ("__debug__" : Str)) = false := by decide) : PE X (.Call (.Name x p) [] [] pos) (tMkV0 C) := ⟨fun pins s σ H Q I h => by
  refine wpAny_Call_Name_kw (ld_glob I hg hm ?_ ndb)
  refine PySem.W.callWith_K0 I.kIn kC ?_
  obtain ⟨bm, N, nm, qn, bs, hdct, sn, sub, ab, col, dd, k0, k1, k2, k3, k5, mN, hC, hN, hni, T⟩ := exc_obj I.kIn q
  show wpAny _ _ (call (.ref C) []) _ _ _
  obtain ⟨hp, gs, dr, tk, os⟩ := s
  refine wpAny_call_exc_subT PySem.F.excBase_ValueError T hC hN hni (fun h' a made => ?_) (by show 0 ≤ sizeLine; omega)
  have na : H a = none := I.hok.gone made.new
  obtain ⟨t, ht, _, _⟩ := made.there
  exact ⟨.ref a, upd H a (exo a C none), I.laidN made.keeps made.new na (exo_ok ht), rfl, h a na⟩⟩
end
end Tx
end
section
set_option maxHeartbeats 4000000
/-! An own error class with one or two fields: all that is known of it, and its calls. -/
namespace Tx
open PySem PySem.Spec PyProof.Rows L2
open Evl (Ex)
theorem PE.weaken {X : Cx} {e : Expr} {t u : TE} (h : PE X e t) (k : ∀ σ H Q, u σ H Q → t σ H Q) : PE X e u := ⟨fun pins s σ H Q I q => h.run pins s σ H Q I (k σ H Q q)⟩
/-- self.f = v -/
def spI1 (K : PySem.W.Frag) (C : Addr) (f : Str) : Sp := fun vs H Q _ => ∃ (a : Addr) (v : V), vs = [.ref a, v] ∧ H a = some (exo a C none) ∧
  ∀ d, H d = none → d ≠ a → Q .non (upd (upd H d (exd d [(f, v)])) a (exo a C (some d)))
/-- self.f = v; self.g = u -/
def spI2 (K : PySem.W.Frag) (C : Addr) (f g : Str) : Sp := fun vs H Q _ => ∃ (a : Addr) (v u : V), vs = [.ref a, v, u] ∧ H a = some (exo a C none) ∧
  ∀ d, H d = none → d ≠ a → Q .non (upd (upd (upd H d (exd d [(f, v)])) a (exo a C (some d))) d (exd d [(g, u), (f, v)]))
def catV {α : Type} : List α → List α → List α := fun a b => a ++ b
def revV {α : Type} : List α → List α → List α := fun a b => a ++ b.reverse
/-- what is known of a class -/
structure EC (K : PySem.W.Frag) (mg : Str → Option Value) (n : Str) (C : Addr) : Prop where
  g : mg n = some (.ref C)
  ox : OexC K C
  ex : ExcC K C
/-- .. of its __init__ -/
structure EI (P : Program) (w : World) (K : PySem.W.Frag) (mg : Str → Option Value) (base : Heap) (C fI : Addr) (fd : FuncData) (ps : List Str) (sp : Sp) : Prop where
  ini : PySem.W.findIn K (.ref C) "__init__" = some (some (.ref fI))
  tI : PySem.W.typeIn K (.ref fI) = some (.type "function")
  ok : FnOk P w K mg base CX0 1 fI fd ps sp
theorem err1 {H : Hp} {a C d : Addr} {f : Str} {v : V} (na : H a = none) (nd : upd H a (exo a C none) d = none) (ne : d ≠ a) :
    Ex H (upd (upd (upd H a (exo a C none)) d (exd d [(f, v)])) a (exo a C (some d))) ∧ Err (upd (upd (upd H a (exo a C none)) d (exd d [(f, v)])) a (exo a C (some d))) a C [(f, v)] := by
  have nd' : H d = none := by
    rw [upd_ne ne] at nd
    exact nd
  refine ⟨fun b o e => ?_, .inr (.inl ⟨d, upd_same, ?_⟩)⟩
  · rw [upd_ne (ne_of_none e na), upd_ne (ne_of_none e nd'), upd_ne (ne_of_none e na)]
    exact e
  · rw [upd_ne ne, upd_same]
theorem err2 {H : Hp} {a C d : Addr} {f g : Str} {v u : V} (na : H a = none) (nd : upd H a (exo a C none) d = none) (ne : d ≠ a) :
    Ex H (upd (upd (upd (upd H a (exo a C none)) d (exd d [(f, v)])) a (exo a C (some d))) d (exd d [(g, u), (f, v)])) ∧
      Err (upd (upd (upd (upd H a (exo a C none)) d (exd d [(f, v)])) a (exo a C (some d))) d (exd d [(g, u), (f, v)])) a C [(g, u), (f, v)] := by
  have nd' : H d = none := by
    rw [upd_ne ne] at nd
    exact nd
  refine ⟨fun b o e => ?_, .inr (.inl ⟨d, ?_, upd_same⟩)⟩
  · rw [upd_ne (ne_of_none e nd')]
    exact (err1 na nd ne).1 b o e
  · rw [upd_ne (Ne.symm ne), upd_same]
section
variable {X : Cx} {n f g : Str} {C fI : Addr} {fd : FuncData} {p pos : Pos} {e e1 e2 : Expr} {te te1 te2 : TE} {kws : List Keyword} {tk : TA}
theorem pe_err1 (E : EC X.K X.mg n C) (J : EI X.prog X.w X.K X.mg X.base C fI fd ["self", f] (spI1 X.K C f)) (bnd : Binds X.K fd ["self", f] []) (room : Room 2 X.A) (hg : Gl X n) (he : PE X e te) (ndb : (n == ("__debug__" : Str)) = false := by decide)
    (se : starEach [e] X.env = (false, eval e X.env) :: starEach [] X.env := by rfl) : PE X (.Call (.Name n p) [e] [] pos) (tMkV C (spI1 X.K C f) (tCons te tNil)) :=
  pe_mkV E.ox J.ini J.tI J.ok room bnd hg E.g (pa_cons he pa_nil se) ndb se (by rfl)
theorem pe_err2 (E : EC X.K X.mg n C) (J : EI X.prog X.w X.K X.mg X.base C fI fd ["self", f, g] (spI2 X.K C f g)) (bnd : Binds X.K fd ["self", f, g] []) (room : Room 2 X.A) (hg : Gl X n) (h1 : PE X e1 te1) (h2 : PE X e2 te2) (ndb : (n == ("__debug__" : Str)) = false := by decide)
    (se : starEach [e1, e2] X.env = (false, eval e1 X.env) :: starEach [e2] X.env := by rfl) (se2 : starEach [e2] X.env = (false, eval e2 X.env) :: starEach [] X.env := by rfl) (sn : (backTo pos (starEach [e2] X.env)).any (·.1) = false := by rfl) :
    PE X (.Call (.Name n p) [e1, e2] [] pos) (tMkV C (spI2 X.K C f g) (tCons te1 (tCons te2 tNil))) :=
  pe_mkV E.ox J.ini J.tI J.ok room bnd hg E.g (pa_cons h1 (pa_cons h2 pa_nil se2) se) ndb se sn
theorem pe_err1K (E : EC X.K X.mg n C) (J : EI X.prog X.w X.K X.mg X.base C fI fd ["self", f] (spI1 X.K C f)) (bnd : KBn X.K fd ["self", f] 1 [f] catV catV) (room : Room 2 X.A) (hg : Gl X n) (hkw : PK X kws tk)
    (hall : (backToKw pos (keywordEach kws X.env)).all (·.1.isSome) = true := by rfl) (hks : (backToKw pos (keywordEach kws X.env)).filterMap (·.1) = [f] := by rfl)
    (ndb : (n == ("__debug__" : Str)) = false := by decide) (hpl : ((backTo pos (starEach [] X.env)).any (·.1) || (backToKw pos (keywordEach kws X.env)).any (·.1.isNone)) = false := by rfl) :
    PE X (.Call (.Name n p) [] kws pos) (tMkVK C (spI1 X.K C f) 1 catV tk) :=
  pe_mkVK E.ox J.ini J.tI J.ok room bnd hg E.g hkw hall hks ndb hpl
theorem pe_err2K (E : EC X.K X.mg n C) (J : EI X.prog X.w X.K X.mg X.base C fI fd ["self", f, g] (spI2 X.K C f g)) (bnd : KBn X.K fd ["self", f, g] 1 [g, f] revV revV) (room : Room 2 X.A) (hg : Gl X n) (hkw : PK X kws tk)
    (hall : (backToKw pos (keywordEach kws X.env)).all (·.1.isSome) = true := by rfl) (hks : (backToKw pos (keywordEach kws X.env)).filterMap (·.1) = [g, f] := by rfl)
    (ndb : (n == ("__debug__" : Str)) = false := by decide) (hpl : ((backTo pos (starEach [] X.env)).any (·.1) || (backToKw pos (keywordEach kws X.env)).any (·.1.isNone)) = false := by rfl) :
    PE X (.Call (.Name n p) [] kws pos) (tMkVK C (spI2 X.K C f g) 2 revV tk) :=
  pe_mkVK E.ox J.ini J.tI J.ok room bnd hg E.g hkw hall hks ndb hpl
end
/-! ### what they evaluate to -/
/-- a new error of the class at C with the fields fs -/
def EvE (te : TE) (σ : L2.St) (H : Hp) (C : Addr) (fs : List (Str × V)) : Prop := ∀ H1, Ex H H1 → ∀ Q : VK, (∀ a H2, Ex H1 H2 → Err H2 a C fs → Q (.ref a) H2) → te σ H1 Q
theorem Err.mono {H H' : Hp} {a C : Addr} {fs : List (Str × V)} (h : Err H a C fs) (e : Ex H H') : Err H' a C fs := by
  rcases h with ⟨h1, h2⟩ | ⟨d, h1, h2⟩ | ⟨d, h1, h2⟩
  · exact .inl ⟨e _ _ h1, h2⟩
  · exact .inr (.inl ⟨d, e _ _ h1, e _ _ h2⟩)
  · refine .inr (.inr ⟨d, e _ _ h1, ?_⟩)
    rcases h2 with h2 | ⟨x, h2, h3⟩
    · exact .inl h2
    · exact .inr ⟨x, h2, e _ _ h3⟩
inductive ErrAll (H : Hp) : List V → List (Addr × List (Str × V)) → Prop
  | nil : ErrAll H [] []
  | cons {a C : Addr} {fs : List (Str × V)} {vs : List V} {cs : List (Addr × List (Str × V))} : Err H a C fs → ErrAll H vs cs → ErrAll H (.ref a :: vs) ((C, fs) :: cs)
theorem ErrAll.mono {H H' : Hp} (e : Ex H H') : ∀ {vs : List V} {cs : List (Addr × List (Str × V))}, ErrAll H vs cs → ErrAll H' vs cs
  | _, _, .nil => .nil
  | _, _, .cons h t => .cons (h.mono e) (t.mono e)
theorem ErrAll.length {H : Hp} : ∀ {vs : List V} {cs : List (Addr × List (Str × V))}, ErrAll H vs cs → vs.length = cs.length
  | _, _, .nil => rfl
  | _, _, .cons _ t => congrArg Nat.succ t.length
theorem ErrAll.append {H : Hp} : ∀ {vs us : List V} {cs ds : List (Addr × List (Str × V))}, ErrAll H vs cs → ErrAll H us ds → ErrAll H (vs ++ us) (cs ++ ds)
  | _, _, _, _, .nil, s => s
  | _, _, _, _, .cons h t, s => .cons h (t.append s)
theorem ErrAll.at {H : Hp} : ∀ {vs : List V} {cs : List (Addr × List (Str × V))} {i : Nat} {C : Addr} {fs : List (Str × V)}, ErrAll H vs cs → cs[i]? = some (C, fs) → ∃ a, vs[i]? = some (.ref a) ∧ Err H a C fs
  | _, _, _, _, _, .nil, e => by simp at e
  | _, _, 0, _, _, .cons h _, e => by
    simp at e
    obtain ⟨rfl, rfl⟩ := e
    exact ⟨_, rfl, h⟩
  | _, _, i + 1, C, fs, .cons _ t, e => by
    obtain ⟨a, e1, e2⟩ := ErrAll.at (i := i) (C := C) (fs := fs) t (by simpa using e)
    exact ⟨a, by simpa using e1, e2⟩
def EvEs (ta : TA) (σ : L2.St) (H : Hp) (cs : List (Addr × List (Str × V))) : Prop := ∀ H1, Ex H H1 → ∀ Q : List V → Hp → Prop, (∀ vs H2, Ex H1 H2 → ErrAll H2 vs cs → Q vs H2) → ta σ H1 Q
section
variable {K : PySem.W.Frag} {σ : L2.St} {H : Hp} {te te1 te2 : TE} {ta : TA} {C : Addr} {f g : Str} {v u : V} {fs : List (Str × V)} {cs : List (Addr × List (Str × V))}
theorem ee_1 (h : Evl.Ev te σ H v) : EvE (tMkV C (spI1 K C f) (tCons te tNil)) σ H C [(f, v)] := fun H1 e Q q =>
  h H1 e _ fun H2 e2 => ⟨(by show 1 ≤ 1000; decide), fun a na => ⟨a, v, rfl, upd_same, fun d nd ne => ⟨rfl, q a _ (e2.trans (err1 na nd ne).1) (err1 na nd ne).2⟩⟩⟩
theorem ee_2 (h : Evl.Ev te1 σ H v) (h2 : Evl.Ev te2 σ H u) : EvE (tMkV C (spI2 K C f g) (tCons te1 (tCons te2 tNil))) σ H C [(g, u), (f, v)] := fun H1 e Q q =>
  h H1 e _ fun H2 e2 => h2 H2 (e.trans e2) _ fun H3 e3 => ⟨(by show 2 ≤ 1000; decide), fun a na => ⟨a, v, u, rfl, upd_same, fun d nd ne => ⟨rfl, q a _ ((e2.trans e3).trans (err2 na nd ne).1) (err2 na nd ne).2⟩⟩⟩
theorem ee_1K (h : Evl.Ev te σ H v) : EvE (tMkVK C (spI1 K C f) 1 catV (tCons te tNil)) σ H C [(f, v)] := fun H1 e Q q =>
  h H1 e _ fun H2 e2 => ⟨rfl, fun a na => ⟨a, v, rfl, upd_same, fun d nd ne => ⟨rfl, q a _ (e2.trans (err1 na nd ne).1) (err1 na nd ne).2⟩⟩⟩
theorem ee_2K (h : Evl.Ev te1 σ H u) (h2 : Evl.Ev te2 σ H v) : EvE (tMkVK C (spI2 K C f g) 2 revV (tCons te1 (tCons te2 tNil))) σ H C [(g, u), (f, v)] := fun H1 e Q q =>
  h H1 e _ fun H2 e2 => h2 H2 (e.trans e2) _ fun H3 e3 => ⟨rfl, fun a na => ⟨a, v, u, rfl, upd_same, fun d nd ne => ⟨rfl, q a _ ((e2.trans e3).trans (err2 na nd ne).1) (err2 na nd ne).2⟩⟩⟩
theorem ee_0 : EvE (tMkV0 C) σ H C [] := fun H1 e Q q a na => q a _ (Ex.new na) (.inl ⟨upd_same, rfl⟩)
theorem ees_nil : EvEs tNil σ H [] := fun H1 _ _ q => q [] H1 (Ex.refl H1) .nil
theorem ees_cons (h : EvE te σ H C fs) (hr : EvEs ta σ H cs) : EvEs (tCons te ta) σ H ((C, fs) :: cs) := fun H1 e Q q =>
  h H1 e _ fun a H2 e2 er => hr H2 (e.trans e2) _ fun vs H3 e3 ea => q _ H3 (e2.trans e3) (.cons (er.mono e3) ea)
/-- a new list of errors -/
def EvEL (te : TE) (σ : L2.St) (H : Hp) (cs : List (Addr × List (Str × V))) : Prop := ∀ H1, Ex H H1 → ∀ Q : VK, (∀ p vs H2, H1 p = none → Ex H1 H2 → H2 p = some (.lst vs) → ErrAll H2 vs cs → Q (.ref p) H2) → te σ H1 Q
theorem eel_lst (h : EvEs ta σ H cs) (hl : cs.length ≤ 1000) : EvEL (tLst ta) σ H cs := fun H1 e Q q =>
  h H1 e _ fun vs H2 e2 ea => ⟨(by rw [ea.length]; exact Evl.sz_of (Nat.le_trans hl (by decide))), fun p np => q p vs _ (Evl.fresh_back e2 np) (e2.trans (Ex.new np)) upd_same (ea.mono (Ex.new np))⟩
end
end Tx
end
section
set_option maxHeartbeats 4000000
/-! What systems and keys are, and what the package's defs of them promise. -/
namespace Tx
open PySem PySem.Spec PyProof.Rows L2 He Hx
open Evl (Ex)
/-- a system of d depths, its master m -/
def IsSys (K : PySem.W.Frag) (H : Hp) (a : Addr) (d m : Int) : Prop := ∃ dx, H a = some (.ins (ga K "System") dx [("depths", .int d), ("master", .int m)])
/-- a key of the system at s -/
def IsKey (K : PySem.W.Frag) (H : Hp) (a s : Addr) (cuts : List Int) : Prop := ∃ dx t, H a = some (.ins (ga K "Key") dx [("system", .ref s), ("own_cuts", .ref t), ("places", .int cuts.length)]) ∧ H t = some (.tup (cuts.map V.int))
theorem IsSys.mono {K : PySem.W.Frag} {H H' : Hp} {a : Addr} {d m : Int} (h : IsSys K H a d m) (e : Ex H H') : IsSys K H' a d m := let ⟨dx, q⟩ := h; ⟨dx, e _ _ q⟩
theorem IsKey.mono {K : PySem.W.Frag} {H H' : Hp} {a s : Addr} {cuts : List Int} (h : IsKey K H a s cuts) (e : Ex H H') : IsKey K H' a s cuts := let ⟨dx, t, q, r⟩ := h; ⟨dx, t, e _ _ q, e _ _ r⟩
/-- a value that is no whole number -/
def NoInt (K : PySem.W.Frag) (H : Hp) (v : V) : Prop := (∃ b, v = .bl b) ∨ ∃ t, TyX K H v t ∧ PySem.W.kitOne K t (.type "int") = some false
/-- the wish E takes an error of the class n with these fields -/
def Rz (K : PySem.W.Frag) (H : Hp) (E : XK) (n : Str) (fs : List (Str × V)) : Prop := ∀ d H', Ex H H' → H d = none → H' d = some (.xd fs) → E (.ref (ga K n)) (some d) H'
def spWhole (K : PySem.W.Frag) : Sp := fun vs H Q _ => ∃ v, vs = [v] ∧ ((∃ i, v = .int i ∧ Q (.bl true) H) ∨ (NoInt K H v ∧ Q (.bl false) H))
def btw (i lo hi : Int) : Bool := decide (lo ≤ i) && decide (i ≤ hi)
def spBtw (K : PySem.W.Frag) : Sp := fun vs H Q _ => ∃ v lo hi, vs = [v, .int lo, .int hi] ∧ ((∃ i, v = .int i ∧ Q (.bl (btw i lo hi)) H) ∨ (NoInt K H v ∧ Q (.bl false) H))
/-- the number that a word of one figure writes -/
def figV (x : Str) (m : Int) : V := match x.cps.toList with
  | [c] => if 48 ≤ c ∧ (c : Int) ≤ 48 + m then .int ((c : Int) - 48) else .non
  | _ => .non
def spFig : Sp := fun vs H Q _ => ∃ x m, vs = [.str x, .int m] ∧ 0 ≤ m ∧ m ≤ 9 ∧ x.length ≤ 100000 ∧ Q (figV x m) H
def spNeedSys (K : PySem.W.Frag) : Sp := fun vs H Q E => ∃ v, vs = [v] ∧ ((∃ a d m, v = .ref a ∧ IsSys K H a d m ∧ Q .non H) ∨ (∃ t, TyX K H v t ∧ PySem.W.kitOne K t (.ref (ga K "Depths")) = some false ∧ Rz K H E "BadSystem" [("part", .str "system")]))
/-- Depths.__init__ -/
def spDep (K : PySem.W.Frag) : Sp := fun vs H Q _ => ∃ a dx x y, vs = [.ref a, x, y] ∧ H a = some (.ins (ga K "System") dx []) ∧ Q .non (upd H a (.ins (ga K "System") dx [("depths", x), ("master", y)]))
/-- System.__init__ of right values -/
def spSysI (K : PySem.W.Frag) : Sp := fun vs H Q E => ∃ a dx x y, vs = [.ref a, x, y] ∧ H a = some (.ins (ga K "System") dx []) ∧
  ((∃ d m, x = .int d ∧ y = .int m ∧ btw d 2 6 = true ∧ btw m 0 (d - 1) = true ∧ Q .non (upd H a (.ins (ga K "System") dx [("depths", .int d), ("master", .int m)]))) ∨
   ((NoInt K H x ∨ ∃ d, x = .int d ∧ btw d 2 6 = false) ∧ Rz K H E "BadSystem" [("part", .str "depths")]) ∨
   ((∃ d, x = .int d ∧ btw d 2 6 = true ∧ (NoInt K H y ∨ ∃ m, y = .int m ∧ btw m 0 (d - 1) = false)) ∧ Rz K H E "BadSystem" [("part", .str "master")]))
end Tx
end
section
set_option maxHeartbeats 4000000
/-! The package's errors raised. -/
namespace Tx
open PySem PySem.Spec PyProof.Rows L2 He Hx
open Evl (Ex)
/-- an error's class with one field, its __init__ known -/
structure Er1 (P : Program) (w : World) (K : PySem.W.Frag) (mg : Str → Option Value) (base : Heap) (n f : Str) : Prop where
  g : mg n = some (.ref (ga K n))
  ox : OexC K (ga K n)
  i : ∃ fI fd, EI P w K mg base (ga K n) fI fd ["self", f] (spI1 K (ga K n) f) ∧ L2.Binds K fd ["self", f] []
structure Er2 (P : Program) (w : World) (K : PySem.W.Frag) (mg : Str → Option Value) (base : Heap) (n f f2 : Str) : Prop where
  g : mg n = some (.ref (ga K n))
  ox : OexC K (ga K n)
  i : ∃ fI fd, EI P w K mg base (ga K n) fI fd ["self", f, f2] (spI2 K (ga K n) f f2) ∧ L2.Binds K fd ["self", f, f2] []
def tRz1 (K : PySem.W.Frag) (n f : Str) (W : WX) (te : TE) : TS := fun _ σ H => te σ H fun v H1 => ∀ d H', Ex H1 H' → H1 d = none → H' d = some (.xd [(f, v)]) → W (.ref (ga K n)) (some d) σ H'
def tRz2 (K : PySem.W.Frag) (n f g : Str) (W : WX) (te tu : TE) : TS := fun _ σ H => te σ H fun v H1 => tu σ H1 fun u H2 => ∀ d H', Ex H2 H' → H2 d = none → H' d = some (.xd [(g, u), (f, v)]) → W (.ref (ga K n)) (some d) σ H'
/-- a reading, weakened at its end -/
def tUp (te : TE) : TE := fun σ H Q => ∃ Q0 : VK, te σ H Q0 ∧ ∀ v H1, Q0 v H1 → Q v H1
theorem pe_up {X : Cx} {e : Expr} {te : TE} (h : PE X e te) : PE X e (tUp te) := ⟨fun pins s σ H Q I ⟨Q0, h0, k⟩ => thn (h.run pins s σ H Q0 I h0) fun _ _ ⟨v, H1, I1, r, q⟩ => ⟨v, H1, I1, r, k v H1 q⟩⟩
theorem gone1 {H H2 : Hp} {a d : Addr} {u : HO} (na : H a = none) (nd : H d = none) (k : Ex H H2) : Ex H (upd (del H2 a) d u) := fun b o e => by
  rw [upd_ne (ne_of_none e nd), del_ne (ne_of_none e na)]
  exact k b o e
section
variable {X : Cx} {W : WX} {n f g : Str} {p pos rp : Pos} {e e2 : Expr} {te tu : TE}
theorem ps_raise1 (hc : X.calm = true) (T : Er1 X.prog X.w X.K X.mg X.base n f) (room : Room 2 X.A) (tk : Takes X W) (hg : Gl X n) (he : PE X e te) (ndb : (n == ("__debug__" : Str)) = false := by decide)
    (se : starEach [e] X.env = (false, eval e X.env) :: starEach [] X.env := by rfl) : PS X (.Raise (some (.Call (.Name n p) [e] [] pos)) none rp) (tRz1 X.K n f W te) := by
  obtain ⟨fI, fd, J, bnd⟩ := T.i
  have base := ps_raise (pos := rp) hc tk (pmk_oex (pos := pos) (p := p) T.ox J.ini J.tI J.ok room bnd .nil pass0 hg T.g (pa_cons (pe_up he) pa_nil se) ndb se (by rfl))
  refine ⟨fun pins s σ H D I h => base.run pins s σ H D I ⟨_, h, fun v H1 q => ⟨(by show 1 ≤ 1000; decide), fun a na => ⟨a, v, rfl, upd_same, fun d nd ne => ⟨rfl, d, [(f, v)], upd_same, ?_, ?_, ?_⟩⟩⟩⟩⟩
  · rw [upd_ne ne, upd_same]
  · rw [upd_ne ne] at nd
    exact nd
  · have nd' : H1 d = none := by
      rw [upd_ne ne] at nd
      exact nd
    exact q d _ (gone1 na nd' (err1 na nd ne).1) nd' upd_same
theorem ps_raise2 (hc : X.calm = true) (T : Er2 X.prog X.w X.K X.mg X.base n f g) (room : Room 2 X.A) (tk : Takes X W) (hg : Gl X n) (he : PE X e te) (hu : PE X e2 tu) (ndb : (n == ("__debug__" : Str)) = false := by decide)
    (se : starEach [e, e2] X.env = (false, eval e X.env) :: starEach [e2] X.env := by rfl) (se2 : starEach [e2] X.env = (false, eval e2 X.env) :: starEach [] X.env := by rfl) (sn : (backTo pos (starEach [e2] X.env)).any (·.1) = false := by rfl) :
    PS X (.Raise (some (.Call (.Name n p) [e, e2] [] pos)) none rp) (tRz2 X.K n f g W te tu) := by
  obtain ⟨fI, fd, J, bnd⟩ := T.i
  have base := ps_raise (pos := rp) hc tk (pmk_oex (pos := pos) (p := p) T.ox J.ini J.tI J.ok room bnd .nil pass0 hg T.g (pa_cons (pe_up he) (pa_cons (pe_up hu) pa_nil se2) se) ndb se sn)
  refine ⟨fun pins s σ H D I h => base.run pins s σ H D I ⟨_, h, fun v H0 q0 => ⟨_, q0, fun u H1 q => ⟨(by show 2 ≤ 1000; decide), fun a na => ⟨a, v, u, rfl, upd_same, fun d nd ne => ⟨rfl, d, [(g, u), (f, v)], ?_, upd_same, ?_, ?_⟩⟩⟩⟩⟩⟩
  · rw [upd_ne (Ne.symm ne), upd_same]
  · rw [upd_ne ne] at nd
    exact nd
  · have nd' : H1 d = none := by
      rw [upd_ne ne] at nd
      exact nd
    exact q d _ (gone1 na nd' (err2 na nd ne).1) nd' upd_same
/-- raise C(), C without an __init__ of its own -/
def tRz0 (K : PySem.W.Frag) (n : Str) (W : WX) : TS := fun _ σ H => W (.ref (ga K n)) none σ H
theorem ps_raise0 (hc : X.calm = true) (ex : PySem.W.excIn X.K (ga X.K n) He.veBase "ValueError.__new__" = true) (gC : X.mg n = some (.ref (ga X.K n))) (kC : PySem.W.keepIn X.K (.ref (ga X.K n)) = true) (r : Raises X (.ref (ga X.K n))) (tk : Takes X W) (hg : Gl X n)
    (hdb : (n == ("__debug__" : Str)) = false := by decide) : PS X (.Raise (some (.Call (.Name n p) [] [] pos)) none rp) (tRz0 X.K n W) := by
  refine ps_raise (t := fun σ H Q => Q (.ref (ga X.K n)) none H) hc tk ?_
  intro pins s σ H Q I h
  refine wpAny_Call_Name_kw (ld_glob I hg gC ?_ hdb)
  refine PySem.W.callWith_K0 I.kIn kC ?_
  show wpAny _ _ (call (.ref (ga X.K n)) []) _ _ _
  obtain ⟨bm, N, nm, qn, bs, hdct, sn, sub, ab, col, dd, k0, k1, k2, k3, k5, mN, hC, hN, hni, T⟩ := exc_obj I.kIn ex
  refine wpAny_call_exc_subT PySem.F.excBase_ValueError T hC hN hni (fun h' e hm => ?_) (by show 0 ≤ sizeLine; exact Nat.zero_le _)
  exact mk_of I hm r h (I.hok.gone hm.new)
end
end Tx
namespace Hx
open PySem PySem.Spec PyProof.Rows L2 Tx He
/-- what the class of an own error says, as a Bool -/
def oexB (K : PySem.W.Frag) (C : Addr) : Bool := (match K.lookup C with
  | some ⟨.type "type", _, .cls cd, sl⟩ => (match cd.mro, sl.toList with
    | .ref C' :: bm, [_, _, _, _, some (.builtin n), _] => C' == C && n == "ValueError.__new__" && !cd.hasDel && cd.hasDict && PySem.HandSPX.refsVE bm
    | _, _ => false)
  | _ => false) && (He.eqO (PySem.W.findIn K (.ref C) "__setattr__") (some (some (.builtin "object.__setattr__"))) && (decide (PySem.W.subIn K (.ref C) (.type "BaseException") = some true) &&
    (decide (PySem.W.typeIn K (.ref C) = some (.type "type")) && PySem.W.keepIn K (.ref C))))
theorem oexB_ok {K : PySem.W.Frag} {C : Addr} (h : oexB K C = true) : OexC K C := by
  obtain ⟨q, h⟩ := He.ba h
  obtain ⟨h2, h⟩ := He.ba h
  obtain ⟨h3, h⟩ := He.ba h
  obtain ⟨h4, h5⟩ := He.ba h
  refine ⟨?_, He.eqO_ok h2, of_decide_eq_true h3, of_decide_eq_true h4, h5⟩
  split at q
  · rename_i dd cd sl ho
    split at q
    · rename_i C' bm k0 k1 k2 k3 n k5 hm hs
      simp only [Bool.and_eq_true, beq_iff_eq, Bool.not_eq_true'] at q
      obtain ⟨⟨⟨⟨rfl, rfl⟩, hdel⟩, hdict⟩, hr⟩ := q
      obtain ⟨nm, bs, mro, ns, qn, hd, sn, sub, ab, col, del⟩ := cd
      dsimp only at hm hdel hdict
      subst hm hdel hdict
      have hsl : sl = #[k0, k1, k2, k3, some (.builtin "ValueError.__new__"), k5] := by
        obtain ⟨l⟩ := sl
        simp only at hs
        rw [hs]
      subst hsl
      exact ⟨nm, qn, ns, bs, bm, sn, sub, ab, col, dd, k0, k1, k2, k3, k5, ho, hr⟩
    · cases q
  · cases q
/-- what isinstance and the fields of its instances ask -/
def excB (K : PySem.W.Frag) (D : Addr) : Bool := He.eqO (PySem.W.findIn K (.ref D) "__getattribute__") (some (some (.builtin "BaseException.__getattribute__"))) && (He.eqO (PySem.W.findIn K (.ref D) "__getattr__") (some none) &&
  (decide (PySem.W.subIn K (.ref D) (.type "BaseException") = some true) && (PySem.W.hasDictIn K D && (He.eqO (PySem.W.findIn K (.ref D) "__class__") (some (some (.builtin "object.__class__"))) &&
  (He.eqO (PySem.W.specialIn K (.builtin "object.__class__") "__get__") (some (some (.builtin "getset_descriptor.__get__"))) && (decide (PySem.W.takesIn K (.builtin "object.__class__") = some true) && decide (PySem.W.mroIn K D (.type "object") = some true)))))))
theorem excB_ok {K : PySem.W.Frag} {D : Addr} (h : excB K D = true) : ExcC K D := by
  obtain ⟨h1, h⟩ := He.ba h
  obtain ⟨h2, h⟩ := He.ba h
  obtain ⟨h3, h⟩ := He.ba h
  obtain ⟨h4, h⟩ := He.ba h
  obtain ⟨h5, h⟩ := He.ba h
  obtain ⟨h6, h⟩ := He.ba h
  obtain ⟨h7, h8⟩ := He.ba h
  exact ⟨He.eqO_ok h1, He.eqO_ok h2, of_decide_eq_true h3, h4, He.eqO_ok h5, He.eqO_ok h6, of_decide_eq_true h7, of_decide_eq_true h8⟩
/-- all that is asked of an error's class -/
structure ErC (K : PySem.W.Frag) (n : Str) : Prop where
  ox : OexC K (ga K n)
  ex : ExcC K (ga K n)
def ercB (K : PySem.W.Frag) (n : Str) : Bool := oexB K (ga K n) && excB K (ga K n)
theorem ercB_ok {K : PySem.W.Frag} {n : Str} (h : ercB K n = true) : ErC K n := ⟨oexB_ok (ba h).1, excB_ok (ba h).2⟩
end Hx
end
section
set_option maxHeartbeats 4000000
/-! Facts of classes with own operators, items, calls; by Bools that the kernel runs. -/
namespace Hx
open PySem PySem.Spec PyProof.Rows L2 He Tx
/-- the own method name of the class c, its def at f -/
structure OwnM (K : PySem.W.Frag) (C : Addr) (name : Str) (f : Addr) : Prop where
  at_ : PySem.W.findIn K (.ref C) name = some (some (.ref f))
  fn : PySem.W.isFn K (.ref f) = true
/-- x[i] by an own def -/
structure OwnI (K : PySem.W.Frag) (C : Addr) (f : Addr) : Prop where
  at_ : PySem.W.findIn K (.ref C) "__getitem__" = some (some (.ref f))
  fi : PySem.W.fnIn K f = true
  fn : PySem.W.isFn K (.ref f) = true
/-- what an own operator asks of a built-in type on its right -/
structure BinT (K : PySem.W.Frag) (C : Addr) (nm T : String) : Prop where
  a : ∃ fo, PySem.W.findIn K (.type T) (PySem.dunder nm) = some fo
  b : ∃ ro, PySem.W.findIn K (.type T) (dunderR nm) = some ro
  sub : PySem.W.subIn K (.type T) (.ref C) = some false
/-- .. and of its own class -/
structure BinC (K : PySem.W.Frag) (C : Addr) (nm : String) : Prop where
  first : PySem.W.selfFirst K C = true
  r : ∃ rc, PySem.W.findIn K (.ref C) (dunderR nm) = some rc ∧ (rc = none ∨ ∃ g : Addr, rc = some (.ref g))
def ownB (K : PySem.W.Frag) (C : Addr) (n : Str) : Bool := eqO (PySem.W.findIn K (.ref C) n) (some (some (.ref (ma K C n)))) && PySem.W.isFn K (.ref (ma K C n))
theorem ownB_ok {K : PySem.W.Frag} {C : Addr} {n : Str} (h : ownB K C n = true) : OwnM K C n (ma K C n) := ⟨eqO_ok (ba h).1, (ba h).2⟩
def ownIB (K : PySem.W.Frag) (C : Addr) : Bool := ownB K C "__getitem__" && PySem.W.fnIn K (ma K C "__getitem__")
theorem ownIB_ok {K : PySem.W.Frag} {C : Addr} (h : ownIB K C = true) : OwnI K C (ma K C "__getitem__") := ⟨(ownB_ok (ba h).1).at_, (ba h).2, (ownB_ok (ba h).1).fn⟩
def callOB (K : PySem.W.Frag) (C : Addr) : Bool := ownB K C "__call__" && PySem.W.fnIn K (ma K C "__call__")
theorem callOB_ok {K : PySem.W.Frag} {C : Addr} (h : callOB K C = true) : StX.CallO K C (ma K C "__call__") := ⟨(ownB_ok (ba h).1).at_, (ownB_ok (ba h).1).fn, (ba h).2⟩
def binCB (K : PySem.W.Frag) (C : Addr) (nm : String) : Bool := PySem.W.selfFirst K C && (match PySem.W.findIn K (.ref C) (dunderR nm) with
  | some none => true
  | some (some (.ref _)) => true
  | _ => false)
theorem binCB_ok {K : PySem.W.Frag} {C : Addr} {nm : String} (h : binCB K C nm = true) : BinC K C nm := by
  obtain ⟨h1, h2⟩ := ba h
  refine ⟨h1, ?_⟩
  split at h2
  · rename_i e
    exact ⟨_, e, .inl rfl⟩
  · rename_i g e
    exact ⟨_, e, .inr ⟨g, rfl⟩⟩
  · cases h2
def binTB (K : PySem.W.Frag) (C : Addr) (nm T : String) : Bool := (PySem.W.findIn K (.type T) (PySem.dunder nm)).isSome && ((PySem.W.findIn K (.type T) (dunderR nm)).isSome && decide (PySem.W.subIn K (.type T) (.ref C) = some false))
theorem binTB_ok {K : PySem.W.Frag} {C : Addr} {nm T : String} (h : binTB K C nm T = true) : BinT K C nm T := by
  obtain ⟨h1, h⟩ := ba h
  obtain ⟨h2, h3⟩ := ba h
  exact ⟨Option.isSome_iff_exists.mp h1, Option.isSome_iff_exists.mp h2, of_decide_eq_true h3⟩
def binTsB (K : PySem.W.Frag) (C : Addr) (nm : String) (l : List String) : Bool := l.all fun T => binTB K C nm T
theorem binTsB_ok {K : PySem.W.Frag} {C : Addr} {nm : String} {l : List String} (h : binTsB K C nm l = true) : ∀ T ∈ l, BinT K C nm T := fun T hT => binTB_ok (List.all_eq_true.mp h T hT)
/-- an own text, in f'..' -/
structure FmtO (K : PySem.W.Frag) (C : Addr) (f : Addr) : Prop where
  m : OwnM K C "__str__" f
  fm : PySem.W.findIn K (.ref C) "__format__" = some (some (.builtin "object.__format__"))
  ob : PySem.W.mroIn K C (.type "object") = some true
def fmtOB (K : PySem.W.Frag) (C : Addr) : Bool := ownB K C "__str__" && (eqO (PySem.W.findIn K (.ref C) "__format__") (some (some (.builtin "object.__format__"))) && decide (PySem.W.mroIn K C (.type "object") = some true))
theorem fmtOB_ok {K : PySem.W.Frag} {C : Addr} (h : fmtOB K C = true) : FmtO K C (ma K C "__str__") := by
  obtain ⟨h1, h⟩ := ba h
  obtain ⟨h2, h3⟩ := ba h
  exact ⟨ownB_ok h1, eqO_ok h2, of_decide_eq_true h3⟩
end Hx
end
section
set_option maxHeartbeats 4000000
/-! Heads and ends where tables of code objects may grow. -/
namespace Hx
open PySem PySem.Spec PyProof.Rows L2 Tx He
/-- a def's code object and its table -/
def ctA (K : PySem.W.Frag) (f : Addr) : Addr × Addr := (cdA K f, tabOf K (cdA K f))
/-- two lambdas of one table have one name -/
def oneB (l : List (Addr × Str)) : Bool := l.all fun p => l.all fun z => !(decide (z.1 = p.1)) || decide (z.2 = p.2)
theorem oneB_ok {l : List (Addr × Str)} (h : oneB l = true) : ∀ p ∈ l, ∀ z ∈ l, z.1 = p.1 → z.2 = p.2 := fun p hp z hz e => by
  have q := List.all_eq_true.mp (List.all_eq_true.mp h p hp) z hz
  simp only [Bool.or_eq_true, Bool.not_eq_true', decide_eq_false_iff_not, decide_eq_true_eq] at q
  rcases q with q | q
  · exact absurd e q
  · exact q
def tabG (g : Addr → Option Obj) (tf : PySem.W.Frag → List (Addr × Str)) (K : PySem.W.Frag) : Bool := ((tf K).all fun p => PySem.W.codeHdIn K (ctA K p.1).1 (ctA K p.1).2 && (match g (ctA K p.1).2 with
  | some o => emptyTab o
  | none => false)) && oneB ((tf K).map fun p => ((ctA K p.1).2, p.2))
abbrev AlL : Type := AlH × Bool
/-- what is told: the facts, and of the defs with lambdas that their tables are empty and no part of K -/
structure SaysL (fa : List Fa) (fn : List DefH) (tf : PySem.W.Frag → List (Addr × Str)) (ex : PySem.W.Frag → Bool) (h : Heap) (K : PySem.W.Frag) : Prop where
  says : SaysH fa fn ex K
  hd : ∀ p ∈ tf K, PySem.W.codeHdIn K (ctA K p.1).1 (ctA K p.1).2 = true
  out : ∀ p ∈ tf K, K.lookup (ctA K p.1).2 = none
  empty : ∀ p ∈ tf K, h.get? (ctA K p.1).2 = some { cls := .none, data := .fields #[] }
  one : oneB ((tf K).map fun p => ((ctA K p.1).2, p.2)) = true
def obsL (n : Nat) (fa : List Fa) (fn : List DefH) (tf : PySem.W.Frag → List (Addr × Str)) (ex : PySem.W.Frag → Bool) (g : Addr → Option Obj) : AlL :=
  (obsH fa fn ex (frT g (asD g n ++ [sysModules, cStatics])), tabG g tf (frT g (asD g n ++ [sysModules, cStatics])))
def valL (fn : List DefH) : AlL := (valH fn, true)
theorem saysL_of {n : Nat} {fa : List Fa} {fn : List DefH} {tf : PySem.W.Frag → List (Addr × Str)} {ex : PySem.W.Frag → Bool} {h : Heap} (e : obsL n fa fn tf ex h.get? = valL fn) : SaysL fa fn tf ex h (frT h.get? (asD h.get? n ++ [sysModules, cStatics])) := by
  have e1 := congrArg (fun z : AlL => z.1) e
  have e2 : tabG h.get? tf (frT h.get? (asD h.get? n ++ [sysModules, cStatics])) = true := congrArg (fun z : AlL => z.2) e
  obtain ⟨e2, e3⟩ := ba e2
  generalize hK : frT h.get? (asD h.get? n ++ [sysModules, cStatics]) = K at *
  have key : ∀ p ∈ tf K, PySem.W.codeHdIn K (ctA K p.1).1 (ctA K p.1).2 = true ∧ ∃ o, h.get? (ctA K p.1).2 = some o ∧ emptyTab o = true := fun p hp => by
    obtain ⟨a1, a2⟩ := ba (List.all_eq_true.mp e2 p hp)
    refine ⟨a1, ?_⟩
    split at a2
    · rename_i o q
      exact ⟨o, q, a2⟩
    · cases a2
  refine ⟨?_, fun p hp => (key p hp).1, fun p hp => ?_, fun p hp => ?_, e3⟩
  · subst hK
    exact e1
  · obtain ⟨_, o, q, z⟩ := key p hp
    rw [← hK]
    rw [← hK] at q
    exact frT_none q z
  · obtain ⟨_, o, q, z⟩ := key p hp
    rw [q, emptyTab_eq z]
def hookL (n : Nat) (fa : List Fa) (fn : List DefH) (tf : PySem.W.Frag → List (Addr × Str)) (ex : PySem.W.Frag → Bool) : PySem.W.Hook where
  α := AlL
  obs := fun s => obsL n fa fn tf ex s.heap.get?
  val := fun _ => valL fn
  says := fun _ h => ∃ K : PySem.W.Frag, K.In h ∧ SaysL fa fn tf ex h K
  of := fun _ _ e => ⟨_, frT_in, saysL_of e⟩
  keeps := fun _ _ _ ⟨K, hK, c⟩ k => ⟨K, PySem.W.Frag.In.keeps hK k, ⟨c.says, c.hd, c.out, fun p hp => k _ _ (c.empty p hp), c.one⟩⟩
theorem obsL_eq {n : Nat} {fa : List Fa} {fn : List DefH} {tf : PySem.W.Frag → List (Addr × Str)} {ex : PySem.W.Frag → Bool} {g : Addr → Option Obj} {s : Shared} (h : ∀ a, g a = s.heap.get? a) : obsL n fa fn tf ex g = (hookL n fa fn tf ex).obs s := by
  rw [show g = s.heap.get? from funext h] <;> rfl
end Hx
namespace Tx
open PySem PySem.Spec PyProof.Rows L2
section
variable {P : Program} {w : World} {K : PySem.W.Frag} {mg mb : Str → Option Value} {k : Nat} {fa a : Addr} {fd : FuncData} {x : Str} {sp : Sp} {s₁ : Shared} {vs : List Value} {ns : List Int} {T : List (Addr × Addr)}
/-- .. and the tables, empty yet -/
def scrTab (K : PySem.W.Frag) (T : List (Addr × Addr)) (a : Addr) (vs : List Value) (ns : List Int) : Hp := fun b =>
  if b ∈ T.map Prod.snd then some (.tbl #[]) else scriptH K a vs ns b
theorem lawGT (KX : K.In s₁.heap) (hns : s₁.heap.Ns mainGlobals mg) (hb : s₁.heap.Ns builtinsNs mb) (hbb : ∀ x : Str, x ≠ "__name__" → mb x = bootBuiltins x) (hlim : s₁.heap.NoLimit) (hg : s₁.gens = #[])
    (tEmp : ∀ p ∈ T, s₁.heap.get? p.2 = some { cls := .none, data := .fields #[] }) (tOut : ∀ p ∈ T, K.lookup p.2 = none) (tHd : ∀ p ∈ T, PySem.W.CodeHd s₁.heap p.1 p.2)
    (bmod : ∃ (bm : Addr) (ob : Obj), mg "__builtins__" = some (.ref bm) ∧ bm ≠ builtinsNs ∧ s₁.heap.get? bm = some ob ∧ ob.cls = .type "module" ∧ ob.dict = some builtinsNs ∧ ob.data = .plain)
    (ha : s₁.heap.get? a = some { cls := .type "list", data := .seq vs.toArray }) (hi : IntsAre vs ns) (hl : ns.length ≤ sizeLine) (room : Room k callerA)
    (F : ∀ base : Heap, K.In base → base.Ns mainGlobals mg → (∀ p ∈ T, LamX.TabB base mg p.1 p.2) → FnG P w K mg base CX0 k fa fd [x] sp) (bnd : ∀ (s : Shared) (u : Value), BindsTo s fd ⟨[u], []⟩ [(x, u)])
    (hsp : ∀ H : Hp, (∀ p ∈ T, H p.2 = some (.tbl #[])) → SqL K H a (ns.map V.int) → sp [.ref a] H (fun v _ => v = .bl true) fun _ _ _ => False) :
    codeAny (model P w) callerA (.call (.ref fa) ⟨[.ref a], []⟩) (fun r s' => r = .ok (.ret (.bool true)) ∧ OldK s₁.heap s'.heap ∧ s'.os = s₁.os ∧ AllBare s'.gens) s₁ := by
  have rv : Vals (ns.map V.int) vs := vals_ints hi
  have emp : ∀ {b : Addr}, b ∈ T.map Prod.snd → s₁.heap.get? b = some { cls := .none, data := .fields #[] } ∧ K.lookup b = none := fun {b} m => by
    obtain ⟨p, hp, rfl⟩ := List.mem_map.mp m
    exact ⟨tEmp p hp, tOut p hp⟩
  have aN : a ∉ T.map Prod.snd := fun m => by
    have e := (emp m).1
    rw [ha] at e
    cases e
  have cases3 : ∀ b, scrTab K T a vs ns b = none ∨ (b ∈ T.map Prod.snd ∧ scrTab K T a vs ns b = some (.tbl #[])) ∨ (b = a ∧ K.lookup a = none ∧ scrTab K T a vs ns b = some (.frz { cls := .type "list", data := .seq vs.toArray } (.lst (ns.map V.int)))) := fun b => by
    by_cases m : b ∈ T.map Prod.snd
    · exact .inr (.inl ⟨m, if_pos m⟩)
    · have e : scrTab K T a vs ns b = scriptH K a vs ns b := if_neg m
      rw [e]
      rcases scriptH_cases (K := K) (a := a) (vs := vs) (ns := ns) b with z | z
      · exact .inl z
      · exact .inr (.inr z)
  -- the ground: all objects but the script and the tables
  have low : ∀ {b : Addr} {o : Obj}, s₁.heap.get? b = some o → (b = a → ∃ q, K.lookup a = some q) → b ∉ T.map Prod.snd → (hidT s₁.heap (scrTab K T a vs ns)).get? b = some o := fun {b o} e ne nt => hidT_get e (by
    rcases cases3 b with z | ⟨z, _⟩ | ⟨z1, z2, _⟩
    · exact z
    · exact absurd z nt
    · obtain ⟨q, hq⟩ := ne z1
      rw [z2] at hq
      cases hq)
  have offT : ∀ {b : Addr} {o : Obj}, s₁.heap.get? b = some o → (∀ us, o.data = .fields us → us ≠ #[]) → b ∉ T.map Prod.snd := fun {b o} e d m => by
    have e2 := (emp m).1
    rw [e] at e2
    cases e2
    exact d _ rfl rfl
  have names : ∀ {b : Addr} {m : Str → Option Value}, s₁.heap.Ns b m → (hidT s₁.heap (scrTab K T a vs ns)).Ns b m := fun {b m} ⟨o, es, ep, e, d, rest⟩ => ⟨o, es, ep, low e (fun z => by
    rw [z, ha] at e
    cases e
    cases d) (offT e fun us z => by rw [d] at z; cases z), d, rest⟩
  have kin : K.In (hidT s₁.heap (scrTab K T a vs ns)) := fun b o e => low (KX b o e) (fun z => ⟨o, by rw [← z]; exact e⟩) fun m => by
    rw [(emp m).2] at e
    cases e
  have modl : Mod K mg (hidT s₁.heap (scrTab K T a vs ns)) := ⟨kin, names hns, ⟨mb, names hb, hbb⟩, by
    obtain ⟨mc, h1, h2⟩ := hlim
    exact ⟨mc, names h1, h2⟩⟩
  have hok : HOk P w (scrTab K T a vs ns) s₁.heap := fun b u e => by
    rcases cases3 b with z | ⟨z1, z2⟩ | ⟨z1, _, z2⟩
    · rw [z] at e
      cases e
    · rw [z2] at e
      cases e
      exact (emp z1).1
    · rw [z2] at e
      cases e
      subst z1
      exact ⟨ha, by rw [List.length_map]; exact hl, vs, _, rv, ha⟩
  have hS : SqL K (scrTab K T a vs ns) a (ns.map V.int) := by
    cases hk : K.lookup a with
    | none => exact Or.inl (Or.inr ⟨_, (if_neg aN).trans (if_pos ⟨rfl, hk⟩)⟩)
    | some o =>
      have e := KX a o hk
      rw [ha] at e
      cases e
      exact Or.inr ⟨_, vs.toArray, _, hk, rfl, rfl, rfl, by rw [List.size_toArray, hi.length]; exact hl, by simpa using rv⟩
  have tabs : ∀ p ∈ T, scrTab K T a vs ns p.2 = some (.tbl #[]) := fun p hp => if_pos (List.mem_map.mpr ⟨p, hp, rfl⟩)
  have tb : ∀ p ∈ T, LamX.TabB (hidT s₁.heap (scrTab K T a vs ns)) mg p.1 p.2 := fun p hp => by
    refine ⟨?_, ?_, fun z => ?_⟩
    · obtain ⟨o, us, fl, t1, i1, t2, b1, i2, t3, e1, r1, r2, r3, rest⟩ := tHd p hp
      refine ⟨o, us, fl, t1, i1, t2, b1, i2, t3, low e1 (fun z => ?_) (offT e1 fun vs' z q => ?_), r1, r2, r3, rest⟩
      · rw [z, ha] at e1
        cases e1
        cases r2
      · rw [r2] at z
        cases z
        rw [q] at r3
        cases r3
    · obtain ⟨bm, ob, b1, b2, b3, b4, b5, b6⟩ := bmod
      refine ⟨bm, ob, b1, b2, fun q => ?_, fun q => ?_, low b3 (fun z => ?_) (offT b3 fun us z => by rw [b6] at z; cases z), b4, b5, b6⟩
      · obtain ⟨o, es, ep, e, d, _⟩ := hns
        rw [q, e] at b3
        cases b3
        rw [d] at b6
        cases b6
      · rw [q, tEmp p hp] at b3
        cases b3
        cases b6
      · rw [z, ha] at b3
        cases b3
        cases b6
    · obtain ⟨o, es, ep, e, d, _⟩ := hns
      rw [z, tEmp p hp] at e
      cases e
      cases d
  have env0 : Env0 P w K mg (hidT s₁.heap (scrTab K T a vs ns)) callerA [] s₁ (scrTab K T a vs ns) :=
    ⟨rfl, modl, fun b o e => of_hidT e, Nat.le_of_eq (hidT_size _ _), trivial, fun b z => (nomatch z), hok, .of_eq hg⟩
  refine codeAny_mono ((F _ kin (names hns) tb).run callerA [] s₁ (scrTab K T a vs ns) ⟨[.ref a], []⟩ [.ref a] [.ref a] _ _ rfl room env0 (bnd s₁ (.ref a)) (.cons rfl .nil) (hsp _ tabs hS)) fun res s' got => ?_
  rcases res with err | flow
  · exact got.elim
  · cases flow with
    | next => exact got.elim
    | brk => exact got.elim
    | cont => exact got.elim
    | ret u =>
      obtain ⟨v, H', os, bare, un, hok', rel, rfl⟩ := got
      obtain rfl : u = Value.bool true := rel
      have stay : ∀ b o, b ∉ T.map Prod.snd → s₁.heap.get? b = some o → s'.heap.get? b = some o := fun b o nt e => by
        rcases cases3 b with z | ⟨z, _⟩ | ⟨_, _, z⟩
        · exact un.keep b o e z (fun y => nomatch y) (fun y => nomatch y)
        · exact absurd z nt
        · obtain ⟨e1, _⟩ := hok b _ z
          obtain ⟨e2, _⟩ := hok' b _ (un.frzs b _ _ z)
          rw [e] at e1
          cases e1
          exact e2
      have grow : ∀ p ∈ T, ∃ more : Array Value, s'.heap.get? p.2 = some { cls := .none, data := .fields more } := fun p hp => by
        obtain ⟨more, z⟩ := un.tbls p.2 #[] (tabs p hp)
        exact ⟨_, hok' p.2 _ z⟩
      refine ⟨rfl, ⟨fun b o e => ?_, fun b o e => ?_⟩, os, bare⟩
      · by_cases m : b ∈ T.map Prod.snd
        · obtain ⟨p, hp, rfl⟩ := List.mem_map.mp m
          obtain ⟨more, gm⟩ := grow p hp
          rw [tEmp p hp] at e
          cases e
          exact .inr (.inl ⟨((tHd p hp).tab (tEmp p hp)).isCodeTable, rfl, #[], more, rfl, by rw [Array.empty_append]; exact gm⟩)
        · exact .inl (stay b o m e)
      · by_cases m : b ∈ T.map Prod.snd
        · obtain ⟨p, hp, rfl⟩ := List.mem_map.mp m
          obtain ⟨more, gm⟩ := grow p hp
          exact ⟨_, gm⟩
        · exact ⟨o, stay b o m e⟩
end
theorem walkGT {l : PySem.W.OpenLaw} {n k : Nat} {q : Program} {loose : List Str} {XP : (Str → Option Value) → Heap → Prop} {YP : World → Heap → Prop} {d : DefRec} {x : Str}
    (hn : l.most = some n) (hn2 : n ≤ sizeLine) (hdf : d.params.defaults = []) (room : Room k callerA)
    (F : ∀ (w : World) (mg : Str → Option Value) (fa : Addr) (h : Heap), YP w h → h.Ns mainGlobals mg → mg d.name = some (.ref fa) →
      ∃ (K : PySem.W.Frag) (T : List (Addr × Addr)) (fd : FuncData) (sp : Sp), K.In h ∧ (∀ p ∈ T, h.get? p.2 = some { cls := .none, data := .fields #[] }) ∧ (∀ p ∈ T, K.lookup p.2 = none) ∧ (∀ p ∈ T, PySem.W.CodeHd h p.1 p.2) ∧ (∀ (s : Shared) (u : Value), BindsTo s fd ⟨[u], []⟩ [(x, u)]) ∧
        (∀ (H : Hp) (a : Addr) (ns : List Int), ns.length ≤ n → (∀ p ∈ T, H p.2 = some (.tbl #[])) → SqL K H a (ns.map V.int) → sp [.ref a] H (fun v _ => v = .bl true) fun _ _ _ => False) ∧
        ∀ base : Heap, K.In base → base.Ns mainGlobals mg → (∀ p ∈ T, LamX.TabB base mg p.1 p.2) → FnG l.prog w K mg base CX0 k fa fd [x] sp) :
    PySem.W.WalkO q loose XP YP l.row.toRowW d [] (fun f vs => PySem.call f vs) :=
  Att.attach_call hn hdf fun w s₀ s₁ mg mb fa o pm cd doc a vs ns G Y _ _ _ hmg hobj hints hlen hg => by
    obtain ⟨K, T, fd, sp, KX, tEmp, tOut, tHd, bnd, hsp, hF⟩ := F w mg fa _ Y G.T.g hmg
    exact lawGT KX G.T.g G.T.b G.T.builtins G.T.nolimit hg tEmp tOut tHd G.T.bmain hobj hints (Nat.le_trans hlen hn2) room hF bnd fun H hT hS => hsp H a ns hlen hT hS
end Tx
end
section
set_option maxHeartbeats 4000000
/-! == of numbers and texts with what is none (slow). -/
namespace Tx
open PySem PySem.Spec PyProof.Rows L2 Builtin
theorem int_dcl1 (b : Int) (u : Tok) (l : Addr) (c : Value) (dd : Option Addr) (sl : Array (Option Value)) :
    Meets (Builtin.«int.__eq__» ⟨[.int b u, .ref l], []⟩) (fun _ R s => s.heap.get? l = some { cls := c, dict := dd, data := .plain, slots := sl } ∧ R (.ok (.ret .notImplemented)) s) :=
  .of_wp fun prog w A R s h => by obtain ⟨hp, g, d, tk, os⟩ := s; obtain ⟨hl, h⟩ := h; wp_walk using wpAny_loadPart' hl, wpAny_load hl; exact ⟨_, rfl, h⟩
theorem int_dcl2 (b : Int) (u : Tok) (l : Addr) (c : Value) (es : Array DictEntry) (ep : Nat) (dd : Option Addr) (sl : Array (Option Value)) :
    Meets (Builtin.«int.__eq__» ⟨[.int b u, .ref l], []⟩) (fun _ R s => s.heap.get? l = some { cls := c, dict := dd, data := .dict es ep, slots := sl } ∧ R (.ok (.ret .notImplemented)) s) :=
  .of_wp fun prog w A R s h => by obtain ⟨hp, g, d, tk, os⟩ := s; obtain ⟨hl, h⟩ := h; wp_walk using wpAny_loadPart' hl, wpAny_load hl; exact ⟨_, rfl, h⟩
theorem bool_dcl1 (b : Bool) (l : Addr) (c : Value) (dd : Option Addr) (sl : Array (Option Value)) :
    Meets (Builtin.«int.__eq__» ⟨[.bool b, .ref l], []⟩) (fun _ R s => s.heap.get? l = some { cls := c, dict := dd, data := .plain, slots := sl } ∧ R (.ok (.ret .notImplemented)) s) :=
  .of_wp fun prog w A R s h => by obtain ⟨hp, g, d, tk, os⟩ := s; obtain ⟨hl, h⟩ := h; wp_walk using wpAny_loadPart' hl, wpAny_load hl; exact ⟨_, rfl, h⟩
theorem bool_dcl2 (b : Bool) (l : Addr) (c : Value) (es : Array DictEntry) (ep : Nat) (dd : Option Addr) (sl : Array (Option Value)) :
    Meets (Builtin.«int.__eq__» ⟨[.bool b, .ref l], []⟩) (fun _ R s => s.heap.get? l = some { cls := c, dict := dd, data := .dict es ep, slots := sl } ∧ R (.ok (.ret .notImplemented)) s) :=
  .of_wp fun prog w A R s h => by obtain ⟨hp, g, d, tk, os⟩ := s; obtain ⟨hl, h⟩ := h; wp_walk using wpAny_loadPart' hl, wpAny_load hl; exact ⟨_, rfl, h⟩
theorem str_dcl1 (b : Str) (u : Tok) (l : Addr) (c : Value) (dd : Option Addr) (sl : Array (Option Value)) :
    Meets (Builtin.«str.__eq__» ⟨[.str b u, .ref l], []⟩) (fun _ R s => s.heap.get? l = some { cls := c, dict := dd, data := .plain, slots := sl } ∧ R (.ok (.ret .notImplemented)) s) :=
  .of_wp fun prog w A R s h => by obtain ⟨hp, g, d, tk, os⟩ := s; obtain ⟨hl, h⟩ := h; wp_walk using wpAny_loadPart' hl, wpAny_load hl; exact ⟨_, rfl, h⟩
theorem str_dcl2 (b : Str) (u : Tok) (l : Addr) (c : Value) (es : Array DictEntry) (ep : Nat) (dd : Option Addr) (sl : Array (Option Value)) :
    Meets (Builtin.«str.__eq__» ⟨[.str b u, .ref l], []⟩) (fun _ R s => s.heap.get? l = some { cls := c, dict := dd, data := .dict es ep, slots := sl } ∧ R (.ok (.ret .notImplemented)) s) :=
  .of_wp fun prog w A R s h => by obtain ⟨hp, g, d, tk, os⟩ := s; obtain ⟨hl, h⟩ := h; wp_walk using wpAny_loadPart' hl, wpAny_load hl; exact ⟨_, rfl, h⟩
end Tx
end
section
set_option maxHeartbeats 4000000
/-! == of unlike kinds: a built-in value and an instance with its own == (asked second), a dict and another built-in value. -/
namespace Tx
open PySem PySem.Spec PyProof.Rows L2 Builtin
section
variable (prog : Program) (w : World) (s : Shared)
/-- y is no T -/
def Isn (y : Value) (T : String) : Prop := ∀ (A : Around) (E : Value → Shared → Prop) (R : Bool → Shared → Prop), R false s → wpAny (model prog w) A (isInstance y (.type T)) R E s
/-- the == of u, a T, says nothing about y -/
structure Dcl (u y : Value) (T : String) : Prop where
  ty : s.TypeIs u T
  ex : ∃ id, Slot T "__eq__" id ∧ ∀ (A : Around) (E Q : Value → Shared → Prop), Q .notImplemented s → wpAny (model prog w) A (call (.builtin id) [u, y]) Q E s
/-- holds no number and no text -/
def NoPr (y : Addr) : Prop := ∃ o, s.heap.get? y = some o ∧ (o.data = .plain ∨ ∃ es ep, o.data = .dict es ep)
end
section
variable {prog : Program} {w : World} {s : Shared}
theorem Isn.of {y : Value} {T U : String} (h : s.TypeIs y U) (e : isSubtype (.type U) (.type T) = pure false) : Isn prog w s y T := fun A E R hr => wpAny_isInstance h e hr
theorem dcl_none (l : Addr) : Dcl prog w s .none (.ref l) "NoneType" := ⟨rfl, _, F.slot_NoneType_eq, fun A E Q h => call_gives F.slot_NoneType_eq rfl F.entry_NoneType_eq (F.args_NoneType_eq_2 _ _) (SeqAt.NoneType___eq___none_ref_0 l) h⟩
theorem dcl_int (b : Int) (u : Tok) {l : Addr} (n : NoPr s l) : Dcl prog w s (.int b u) (.ref l) "int" := ⟨rfl, _, F.slot_int_eq, fun A E Q h => by
  obtain ⟨⟨c, dd, da, sl⟩, ho, hd⟩ := n
  rcases hd with hd | ⟨es, ep, hd⟩
  · cases hd
    exact call_meets F.slot_int_eq rfl F.entry_int_eq (F.args_int_eq_2 _ _) (int_dcl1 b u l c dd sl) ⟨ho, h⟩
  · cases hd
    exact call_meets F.slot_int_eq rfl F.entry_int_eq (F.args_int_eq_2 _ _) (int_dcl2 b u l c es ep dd sl) ⟨ho, h⟩⟩
theorem dcl_bool (b : Bool) {l : Addr} (n : NoPr s l) : Dcl prog w s (.bool b) (.ref l) "bool" := ⟨rfl, _, F.slot_bool_eq, fun A E Q h => by
  obtain ⟨⟨c, dd, da, sl⟩, ho, hd⟩ := n
  rcases hd with hd | ⟨es, ep, hd⟩
  · cases hd
    exact call_meets F.slot_bool_eq rfl F.entry_int_eq (F.args_int_eq_2 _ _) (bool_dcl1 b l c dd sl) ⟨ho, h⟩
  · cases hd
    exact call_meets F.slot_bool_eq rfl F.entry_int_eq (F.args_int_eq_2 _ _) (bool_dcl2 b l c es ep dd sl) ⟨ho, h⟩⟩
theorem dcl_str (b : Str) (u : Tok) {l : Addr} (n : NoPr s l) : Dcl prog w s (.str b u) (.ref l) "str" := ⟨rfl, _, F.slot_str_eq, fun A E Q h => by
  obtain ⟨⟨c, dd, da, sl⟩, ho, hd⟩ := n
  rcases hd with hd | ⟨es, ep, hd⟩
  · cases hd
    exact call_meets F.slot_str_eq rfl F.entry_str_eq (F.args_str_eq_2 _ _) (str_dcl1 b u l c dd sl) ⟨ho, h⟩
  · cases hd
    exact call_meets F.slot_str_eq rfl F.entry_str_eq (F.args_str_eq_2 _ _) (str_dcl2 b u l c es ep dd sl) ⟨ho, h⟩⟩
theorem lst_dcl (l : Addr) (y : Value) :
    MeetsIn prog w (Builtin.«list.__eq__» ⟨[.ref l, y], []⟩) (fun _ R s => Isn prog w s y "list" ∧ R (.ok (.ret .notImplemented)) s) :=
  fun A R s h => by
    obtain ⟨hp, g, d, tk, os⟩ := s
    obtain ⟨i, h⟩ := h
    unfold Isn at i
    wp_walk using i _ _ _
    exact h
theorem tup_dcl (l : Addr) (y : Value) :
    MeetsIn prog w (Builtin.«tuple.__eq__» ⟨[.ref l, y], []⟩) (fun _ R s => Isn prog w s y "tuple" ∧ R (.ok (.ret .notImplemented)) s) :=
  fun A R s h => by
    obtain ⟨hp, g, d, tk, os⟩ := s
    obtain ⟨i, h⟩ := h
    unfold Isn at i
    wp_walk using i _ _ _
    exact h
theorem dct_dcl (l : Addr) (y : Value) :
    MeetsIn prog w (Builtin.«dict.__eq__» ⟨[.ref l, y], []⟩) (fun _ R s => s.TypeIs (.ref l) "dict" ∧ Isn prog w s y "dict" ∧ R (.ok (.ret .notImplemented)) s) :=
  fun A R s h => by
    obtain ⟨ht, i, h⟩ := h
    show wpAny _ _ (Builtin.Dict.dictSlotArgs "__eq__" ⟨[.ref l, y], []⟩ >>= _) _ _ s
    refine wpAny_bind ?_
    unfold Builtin.Dict.dictSlotArgs
    refine wpAny_bind (wpAny_notOrdered_dict ht ?_)
    show wpAny _ _ (pure (Value.ref l, y)) _ _ s
    refine wpAny_pure ?_
    refine wpAny_bind (i _ _ _ ?_)
    simp only [Bool.not_false, if_true]
    refine wpAny_bind (wpAny_rule ?_)
    exact wpAny_pure h
theorem dcl_lst {a : Addr} {y : Value} (hT : s.TypeIs (.ref a) "list") (i : Isn prog w s y "list") : Dcl prog w s (.ref a) y "list" := ⟨hT, _, F.slot_list_eq, fun A E Q h => call_meetsIn F.slot_list_eq hT F.entry_list_eq (F.args_list_eq_2 _ _) (lst_dcl a y) ⟨i, h⟩⟩
theorem dcl_tup {a : Addr} {y : Value} (hT : s.TypeIs (.ref a) "tuple") (i : Isn prog w s y "tuple") : Dcl prog w s (.ref a) y "tuple" := ⟨hT, _, F.slot_tuple_eq, fun A E Q h => call_meetsIn F.slot_tuple_eq hT F.entry_tuple_eq (F.args_tuple_eq_2 _ _) (tup_dcl a y) ⟨i, h⟩⟩
theorem dcl_dct {a : Addr} {y : Value} (hT : s.TypeIs (.ref a) "dict") (i : Isn prog w s y "dict") : Dcl prog w s (.ref a) y "dict" := ⟨hT, _, F.slot_dict_eq, fun A E Q h => call_meetsIn F.slot_dict_eq hT F.entry_dict_eq (F.args_dict_eq_2 _ _) (dct_dcl a y) ⟨hT, i, h⟩⟩
theorem try_dcl {A : Around} {E : Value → Shared → Prop} {Q : Option Value → Shared → Prop} {u y : Value} {T : String} (d : Dcl prog w s u y T) (h : Q none s) : wpAny (model prog w) A (tryCompare u "__eq__" y) Q E s := by
  obtain ⟨t, id, sl, c⟩ := d
  exact wpAny_tryCompare_declines t sl (c _ _ _ ⟨rfl, h⟩)
/-- both say nothing, and they are not the same thing -/
theorem rc_dcl {A : Around} {E Q : Value → Shared → Prop} {u y : Value} {T U : String} (hu : A.units < cLine) (d : Dcl prog w s u y T) (e : Dcl prog w s y u U) (ne : T ≠ U) (sb : isSubtype (.type U) (.type T) = pure false)
    (sm : ∀ (A : Around) (E : Value → Shared → Prop) (R : Bool → Shared → Prop), R false s → wpAny (model prog w) A (isSame u y) R E s) (h : Q (.bool false) s) : wpAny (model prog w) A (richCompare .Eq u y) Q E s := by
  obtain ⟨t1, i1, s1, c1⟩ := d
  obtain ⟨t2, i2, s2, c2⟩ := e
  exact SeqAt.rc_eq_decline_or (k := false) t1 t2 (by simpa using ne) sb s1 s2 (fun Q' hq => c1 _ _ _ hq) (fun Q' hq => c2 _ _ _ hq) (fun Q' hq => sm _ _ _ hq) (.inr hu) h
end
/-- values of the built-in types -/
inductive BiV (H : Hp) : V → String → Prop
  | non : BiV H .non "NoneType"
  | bl (b : Bool) : BiV H (.bl b) "bool"
  | int (i : Int) : BiV H (.int i) "int"
  | str (z : Str) : BiV H (.str z) "str"
  | tup {a : Addr} {vs : List V} : H a = some (.tup vs) → BiV H (.ref a) "tuple"
  | lst {a : Addr} {vs : List V} : H a = some (.lst vs) → BiV H (.ref a) "list"
  | dct {a : Addr} {vs : List (L2.Key × V)} : H a = some (.dK vs) → BiV H (.ref a) "dict"
section
variable {X : Cx} {pins : List (Addr × Obj)} {σ : L2.St} {H : Hp} {s : Shared} {x y : V} {u v : Value} {T U : String}
theorem BiV.ty (I : Inv X pins σ H s) (rx : RelV x u) (b : BiV H x T) : s.TypeIs u T := by
  cases b with
  | non => cases rx; exact (show typeOf _ = pure _ from rfl)
  | bl b => cases rx; exact (show typeOf _ = pure _ from rfl)
  | int i => obtain ⟨tk, rfl⟩ := rx; exact rfl
  | str z => obtain ⟨tk, rfl⟩ := rx; exact rfl
  | tup h =>
    cases rx
    obtain ⟨_, its, _, q⟩ := (show ObjOk X.prog X.w H s.heap _ (.tup _) from I.hok _ _ h)
    exact q.typeIs
  | lst h =>
    cases rx
    obtain ⟨_, its, n, _, q⟩ := (show ObjOk X.prog X.w H s.heap _ (.lst _) from I.hok _ _ h)
    exact ⟨_, q, rfl⟩
  | dct h =>
    cases rx
    obtain ⟨_, _, vs, _, q⟩ := (show ObjOk X.prog X.w H s.heap _ (.dK _) from I.hok _ _ h)
    exact q.typeIs
theorem BiV.dcl (I : Inv X pins σ H s) (rx : RelV x u) (b : BiV H x T) (hs : T = "dict" ∨ ∃ l, v = .ref l ∧ NoPr s l) (hi : Isn X.prog X.w s v T) : Dcl X.prog X.w s u v T := by
  have t := b.ty I rx
  cases b with
  | non => cases rx; rcases hs with e | ⟨l, rfl, n⟩; exact absurd e (by decide); exact dcl_none l
  | bl b => cases rx; rcases hs with e | ⟨l, rfl, n⟩; exact absurd e (by decide); exact dcl_bool b n
  | int i => obtain ⟨tk, rfl⟩ := rx; rcases hs with e | ⟨l, rfl, n⟩; exact absurd e (by decide); exact dcl_int i _ n
  | str z => obtain ⟨tk, rfl⟩ := rx; rcases hs with e | ⟨l, rfl, n⟩; exact absurd e (by decide); exact dcl_str z _ n
  | tup h => cases rx; exact dcl_tup t hi
  | lst h => cases rx; exact dcl_lst t hi
  | dct h => cases rx; exact dcl_dct t hi
theorem BiV.isD {x : V} {T : String} (b : BiV H x T) (e : T = "dict") : ∃ a vs, x = .ref a ∧ H a = some (.dK vs) := by
  cases b with
  | dct h => exact ⟨_, _, rfl, h⟩
  | _ => exact absurd e (by decide)
theorem BiV.nopr (I : Inv X pins σ H s) (rx : RelV x u) (b : BiV H x "dict") : ∃ l, u = .ref l ∧ NoPr s l := by
  obtain ⟨a, vs0, rfl, h⟩ := b.isD rfl
  · cases rx
    obtain ⟨_, _, vs, _, o, es, ep, q1, _, q2, _⟩ := (show ObjOk X.prog X.w H s.heap _ (.dK _) from I.hok _ _ h)
    exact ⟨_, rfl, o, q1, .inr ⟨es, ep, q2⟩⟩
theorem sub_dict {T : String} (b : BiV H x T) (ne : T ≠ "dict") : isSubtype (.type "dict") (.type T) = pure false ∧ isSubtype (.type T) (.type "dict") = pure false := by
  cases b with
  | non => exact ⟨F.sub_dict_NoneType, F.sub_NoneType_dict⟩
  | bl b => exact ⟨F.sub_dict_bool, F.sub_bool_dict⟩
  | int i => exact ⟨F.sub_dict_int, F.sub_int_dict⟩
  | str z => exact ⟨F.sub_dict_str, F.sub_str_dict⟩
  | tup h => exact ⟨F.sub_dict_tuple, F.sub_tuple_dict⟩
  | lst h => exact ⟨F.sub_dict_list, F.sub_list_dict⟩
  | dct h => exact absurd rfl ne
theorem same_dict (I : Inv X pins σ H s) (rx : RelV x u) (b : BiV H x T) (ne : T ≠ "dict") {d : Addr} {vs : List (L2.Key × V)} (hd : H d = some (.dK vs)) :
    (∀ (A : Around) (E : Value → Shared → Prop) (R : Bool → Shared → Prop), R false s → wpAny (model X.prog X.w) A (isSame u (.ref d)) R E s) ∧ (∀ (A : Around) (E : Value → Shared → Prop) (R : Bool → Shared → Prop), R false s → wpAny (model X.prog X.w) A (isSame (.ref d) u) R E s) := by
  obtain ⟨_, _, vs', _, o, es, ep, q1, ⟨q3, _⟩, q2, _⟩ := (show ObjOk X.prog X.w H s.heap _ (.dK _) from I.hok _ _ hd)
  have go : ∀ a : Addr, a ≠ d → s.TypeIs (.ref a) T → (∀ (A : Around) (E : Value → Shared → Prop) (R : Bool → Shared → Prop), R false s → wpAny (model X.prog X.w) A (isSame (.ref a) (.ref d)) R E s) ∧ (∀ (A : Around) (E : Value → Shared → Prop) (R : Bool → Shared → Prop), R false s → wpAny (model X.prog X.w) A (isSame (.ref d) (.ref a)) R E s) := fun a na t => by
    obtain ⟨o2, g1, g2⟩ := t
    have hno : o.cls ≠ .type "tuple" := by rw [q3]; simp
    exact ⟨fun A E R hr => SeqAt.wpAny_isSame_ref_other' na g1 q1 hno hr, fun A E R hr => wpAny_isSame_ref_other na.symm q1 g1 hno hr⟩
  have t := b.ty I rx
  cases b with
  | non => cases rx; exact ⟨fun A E R hr => wpAny_of_eq (rfl : isSame .none (.ref d) = pure false) hr, fun A E R hr => wpAny_of_eq (rfl : isSame (.ref d) .none = pure false) hr⟩
  | bl b => cases rx; exact ⟨fun A E R hr => wpAny_of_eq (rfl : isSame (.bool b) (.ref d) = pure false) hr, fun A E R hr => wpAny_of_eq (rfl : isSame (.ref d) (.bool b) = pure false) hr⟩
  | int i => obtain ⟨tk, rfl⟩ := rx; exact ⟨fun A E R hr => wpAny_of_eq (rfl : isSame (.int i _) (.ref d) = pure false) hr, fun A E R hr => wpAny_of_eq (rfl : isSame (.ref d) (.int i _) = pure false) hr⟩
  | str z => obtain ⟨tk, rfl⟩ := rx; exact ⟨fun A E R hr => wpAny_of_eq (rfl : isSame (.str z _) (.ref d) = pure false) hr, fun A E R hr => wpAny_of_eq (rfl : isSame (.ref d) (.str z _) = pure false) hr⟩
  | tup h =>
    cases rx
    exact go _ (fun e => by subst e; rw [h] at hd; cases hd) t
  | lst h =>
    cases rx
    exact go _ (fun e => by subst e; rw [h] at hd; cases hd) t
  | dct h => exact absurd rfl ne
/-- a dict and another built-in value are unlike -/
def rEqDB : R2 := fun x y H Q => ∃ T U, BiV H x T ∧ BiV H y U ∧ T ≠ U ∧ (T = "dict" ∨ U = "dict") ∧ Q (.bl false) H
theorem op_eqDB (hu : X.A.units < cLine) : OpR X (compareOp .Eq) rEqDB := by
  intro pins s σ H x y u v Q I rx ry ⟨T, U, bx, by_, ne, hd, k⟩
  show wpAny (model X.prog X.w) X.A (richCompare .Eq u v) (EP X pins σ Q) X.xe s
  rcases hd with rfl | rfl
  · obtain ⟨s1, s2⟩ := sub_dict by_ ne.symm
    have e : Dcl X.prog X.w s v u U := by_.dcl I ry (.inr (bx.nopr I rx)) (.of (bx.ty I rx) s1)
    have d : Dcl X.prog X.w s u v "dict" := bx.dcl I rx (.inl rfl) (.of (by_.ty I ry) s2)
    obtain ⟨a, vs0, rfl, h⟩ := bx.isD rfl
    · cases rx
      exact rc_dcl hu d e ne s2 (same_dict I ry by_ ne.symm h).2 ⟨_, H, I, show RelV (.bl false) (.bool false) from rfl, k⟩
  · obtain ⟨s1, s2⟩ := sub_dict bx ne
    have d : Dcl X.prog X.w s u v T := bx.dcl I rx (.inr (by_.nopr I ry)) (.of (by_.ty I ry) s1)
    have e : Dcl X.prog X.w s v u "dict" := by_.dcl I ry (.inl rfl) (.of (bx.ty I rx) s2)
    obtain ⟨a, vs0, rfl, h⟩ := by_.isD rfl
    · cases ry
      exact rc_dcl hu d e ne s1 (same_dict I rx bx ne h).1 ⟨_, H, I, show RelV (.bl false) (.bool false) from rfl, k⟩
/-- the classes' instances are none of the built-in types -/
def bts : List String := ["NoneType", "bool", "int", "str", "list", "tuple", "dict"]
def subB (K : PySem.W.Frag) (C : Addr) : Bool := bts.all fun t => PySem.W.subIn K (.ref C) (.type t) == some false
theorem subB_ok {K : PySem.W.Frag} {C : Addr} (h : subB K C = true) : ∀ t ∈ bts, PySem.W.subIn K (.ref C) (.type t) = some false := fun t ht => beq_iff_eq.mp (List.all_eq_true.mp h t ht)
theorem BiV.bt {x : V} {T : String} (b : BiV H x T) : T ∈ bts := by cases b <;> decide
/-- x == y: x of a built-in type, y an instance of C with its own == -/
def rEqR (K : PySem.W.Frag) (C : Addr) (sp : Sp) (E : XK) : R2 := fun x y H Q => ∃ a dx fs T, BiV H x T ∧ y = .ref a ∧ H a = some (.ins C dx fs) ∧ sp [y, x] H (fun v H' => ∃ b, v = .bl b ∧ Q (.bl b) H') E
theorem op_eqR {CX : CXT} {k : Nat} {C f : Addr} {fd : FuncData} {ps : List Str} {sp : Sp} {E : XK} (c : EqC X.K C f) (sb : ∀ t ∈ bts, PySem.W.subIn X.K (.ref C) (.type t) = some false) (F : FnOk X.prog X.w X.K X.mg X.base CX k f fd ps sp) (room : Room k X.A) (bnd : Binds X.K fd ps []) (pas : Passes CX X E) : OpR X (compareOp .Eq) (rEqR X.K C sp E) := by
  intro pins s σ H x y u v Q I rx ry ⟨a, dx, fs, T, bx, ey, ha, h⟩
  subst ey
  have ry0 := ry
  cases ry
  obtain ⟨mA, J, _⟩ := ins_get I.hok ha
  obtain ⟨od, J, _⟩ := J.look
  have hsub := sb T bx.bt
  have t := bx.ty I rx
  have np : NoPr s a := ⟨_, J.at_, by
    obtain ⟨mA', q1, _⟩ := ins_get I.hok ha
    have q2 := q1.obj
    have q3 := J.at_
    rw [q2] at q3
    cases q3
    exact .inl rfl⟩
  have isn : Isn X.prog X.w s (.ref a) T := fun A E R hr => by
    simp only [isInstance]
    exact wpAny_bind (J.type.here ((PySem.W.looks_subIn I.kIn hsub).here hr))
  have d : Dcl X.prog X.w s u (.ref a) T := bx.dcl I rx (.inr ⟨a, rfl, np⟩) isn
  show wpAny (model X.prog X.w) X.A (richCompare .Eq u (.ref a)) (EP X pins σ Q) X.xe s
  have one : wpAny (model X.prog X.w) X.A (tryCompare (.ref a) "__eq__" u) (fun r s' => ∃ z, r = some z ∧ EP X pins σ Q z s') X.xe s := by
    unfold tryCompare
    refine wpAny_bind (PySem.W.ifBound_K I.kIn J c.eq c.fn ?_)
    refine wpAny_mono (run_eqO (x := .ref a) F bnd pas room rfl I rfl rx h) (fun r s' ⟨b, er, H', I', q⟩ => ?_) fun _ _ z => z
    subst er
    exact wpAny_pure ⟨_, rfl, _, H', I', show RelV (.bl b) (.bool b) from rfl, q⟩
  have hne : (Value.type T != Value.ref a) = true := by simp
  simp only [richCompare, PySem.cmpInfo_Eq, t.oneThing_none]
  refine wpAny_holding (wpAny_bind (wpAny_cRoomFor room.units0 ?_))
  refine wpAny_bind (wpAny_typeOf t (wpAny_bind (J.type.here ?_)))
  split
  · refine wpAny_bind ((PySem.W.looks_subIn I.kIn hsub).here ?_)
    simp only [Bool.false_eq_true, if_false, Bool.not_false, if_true]
    refine wpAny_bind (m := tryCompare u _ (.ref a)) (try_dcl d ?_)
    refine wpAny_bind (m := tryCompare (.ref a) _ u) (wpAny_mono one (fun r s' z => ?_) fun _ _ e => e)
    obtain ⟨z, rfl, hq⟩ := z
    exact wpAny_pure hq
  · rename_i q
    exact absurd (by simp) q
end
end Tx
end
section
set_option maxHeartbeats 0
namespace K46
open PySem PySem.Spec PyProof.Rows L2 Tx He Hx
def top (i : Nat) : Stmt := PySem.Challenge.pw_tenantcuts_k46_crossings_made.main.body.getD i (.Pass ⟨0, 0, 0, 0⟩)
def sub (s : Stmt) (j : Nat) : Stmt := match s with
  | .ClassDef _ _ _ body _ _ _ _ _ _ _ => body.getD j (.Pass ⟨0, 0, 0, 0⟩)
  | _ => .Pass ⟨0, 0, 0, 0⟩
abbrev s_is_whole : Stmt := top 13
def d_is_whole : DefH := ⟨fun K => ga K "is_whole", "is_whole", "is_whole", defArgs s_is_whole, defBody s_is_whole, defScope s_is_whole, [], false⟩
abbrev s_is_between : Stmt := top 14
def d_is_between : DefH := ⟨fun K => ga K "is_between", "is_between", "is_between", defArgs s_is_between, defBody s_is_between, defScope s_is_between, [], false⟩
abbrev s_need_system : Stmt := top 20
def d_need_system : DefH := ⟨fun K => ga K "need_system", "need_system", "need_system", defArgs s_need_system, defBody s_need_system, defScope s_need_system, [], false⟩
abbrev s_Depths___init__ : Stmt := sub (top 17) 0
def d_Depths___init__ : DefH := ⟨fun K => ma K (ga K "Depths") "__init__", "__init__", "Depths.__init__", defArgs s_Depths___init__, defBody s_Depths___init__, defScope s_Depths___init__, [], false⟩
abbrev s_System___eq__ : Stmt := sub (top 26) 7
def d_System___eq__ : DefH := ⟨fun K => ma K (ga K "System") "__eq__", "__eq__", "System.__eq__", defArgs s_System___eq__, defBody s_System___eq__, defScope s_System___eq__, [], false⟩
abbrev s_Key_cuts : Stmt := sub (top 24) 5
def d_Key_cuts : DefH := ⟨fun K => pgA K (ga K "Key") "cuts", "cuts", "Key.cuts", defArgs s_Key_cuts, defBody s_Key_cuts, defScope s_Key_cuts, [], false⟩
abbrev s_Key___init__ : Stmt := sub (top 24) 1
def d_Key___init__ : DefH := ⟨fun K => ma K (ga K "Key") "__init__", "__init__", "Key.__init__", defArgs s_Key___init__, defBody s_Key___init__, defScope s_Key___init__, [], false⟩
abbrev s_Key_of : Stmt := sub (top 24) 2
def d_Key_of : DefH := ⟨fun K => cmA K (ga K "Key") "of", "of", "Key.of", defArgs s_Key_of, defBody s_Key_of, defScope s_Key_of, [], false⟩
abbrev s_Key___eq__ : Stmt := sub (top 24) 22
def d_Key___eq__ : DefH := ⟨fun K => ma K (ga K "Key") "__eq__", "__eq__", "Key.__eq__", defArgs s_Key___eq__, defBody s_Key___eq__, defScope s_Key___eq__, [], false⟩
abbrev s_Key___str__ : Stmt := sub (top 24) 23
def d_Key___str__ : DefH := ⟨fun K => ma K (ga K "Key") "__str__", "__str__", "Key.__str__", defArgs s_Key___str__, defBody s_Key___str__, defScope s_Key___str__, [], false⟩
abbrev s_System___init__ : Stmt := sub (top 26) 2
def d_System___init__ : DefH := ⟨fun K => ma K (ga K "System") "__init__", "__init__", "System.__init__", defArgs s_System___init__, defBody s_System___init__, defScope s_System___init__, [.int 0], true⟩
abbrev s_Crossing___init__ : Stmt := sub (top 28) 0
def d_Crossing___init__ : DefH := ⟨fun K => ma K (ga K "Crossing") "__init__", "__init__", "Crossing.__init__", defArgs s_Crossing___init__, defBody s_Crossing___init__, defScope s_Crossing___init__, [], false⟩
abbrev s_Crossing___eq__ : Stmt := sub (top 28) 1
def d_Crossing___eq__ : DefH := ⟨fun K => ma K (ga K "Crossing") "__eq__", "__eq__", "Crossing.__eq__", defArgs s_Crossing___eq__, defBody s_Crossing___eq__, defScope s_Crossing___eq__, [], false⟩
abbrev s_Crossing___str__ : Stmt := sub (top 28) 2
def d_Crossing___str__ : DefH := ⟨fun K => ma K (ga K "Crossing") "__str__", "__str__", "Crossing.__str__", defArgs s_Crossing___str__, defBody s_Crossing___str__, defScope s_Crossing___str__, [], false⟩
abbrev s__law_pen : Stmt := top 30
def d__law_pen : DefH := ⟨fun K => ga K "_law_pen", "_law_pen", "_law_pen", defArgs s__law_pen, defBody s__law_pen, defScope s__law_pen, [], false⟩
abbrev s__law_draw : Stmt := top 31
def d__law_draw : DefH := ⟨fun K => ga K "_law_draw", "_law_draw", "_law_draw", defArgs s__law_draw, defBody s__law_draw, defScope s__law_draw, [], false⟩
abbrev s__law_pick : Stmt := top 32
def d__law_pick : DefH := ⟨fun K => ga K "_law_pick", "_law_pick", "_law_pick", defArgs s__law_pick, defBody s__law_pick, defScope s__law_pick, [], false⟩
abbrev s__law_key : Stmt := top 33
def d__law_key : DefH := ⟨fun K => ga K "_law_key", "_law_key", "_law_key", defArgs s__law_key, defBody s__law_key, defScope s__law_key, [], false⟩
abbrev s__law_thing : Stmt := top 34
def d__law_thing : DefH := ⟨fun K => ga K "_law_thing", "_law_thing", "_law_thing", defArgs s__law_thing, defBody s__law_thing, defScope s__law_thing, [], false⟩
abbrev s_law : Stmt := top 35
def d_law : DefH := ⟨fun K => ga K "law", "law", "law", defArgs s_law, defBody s_law, defScope s_law, [], false⟩
abbrev s_BadSystem___init__ : Stmt := sub (top 3) 0
def d_BadSystem___init__ : DefH := ⟨fun K => ma K (ga K "BadSystem") "__init__", "__init__", "BadSystem.__init__", defArgs s_BadSystem___init__, defBody s_BadSystem___init__, defScope s_BadSystem___init__, [], false⟩
abbrev s_BadCut___init__ : Stmt := sub (top 4) 0
def d_BadCut___init__ : DefH := ⟨fun K => ma K (ga K "BadCut") "__init__", "__init__", "BadCut.__init__", defArgs s_BadCut___init__, defBody s_BadCut___init__, defScope s_BadCut___init__, [], false⟩
abbrev s_BadKey___init__ : Stmt := sub (top 5) 0
def d_BadKey___init__ : DefH := ⟨fun K => ma K (ga K "BadKey") "__init__", "__init__", "BadKey.__init__", defArgs s_BadKey___init__, defBody s_BadKey___init__, defScope s_BadKey___init__, [], false⟩
abbrev s_TooMany___init__ : Stmt := sub (top 9) 0
def d_TooMany___init__ : DefH := ⟨fun K => ma K (ga K "TooMany") "__init__", "__init__", "TooMany.__init__", defArgs s_TooMany___init__, defBody s_TooMany___init__, defScope s_TooMany___init__, [], false⟩
def fn : List DefH := [d_is_whole, d_is_between, d_need_system, d_Depths___init__, d_System___eq__, d_Key_cuts, d_Key___init__, d_Key_of, d_Key___eq__, d_Key___str__, d_System___init__, d_Crossing___init__, d_Crossing___eq__, d_Crossing___str__, d__law_pen, d__law_draw, d__law_pick, d__law_key, d__law_thing, d_law, d_BadSystem___init__, d_BadCut___init__, d_BadKey___init__, d_TooMany___init__]
def fa : List He.Fa := [.glo "is_whole", .glo "is_between", .glo "need_system", .glo "_law_pen", .glo "_law_draw", .glo "_law_pick", .glo "_law_key", .glo "_law_thing", .glo "law", .glo "Depths", .glo "Key", .glo "System", .glo "Crossing", .free "ValueError", .free "all", .free "range", .free "isinstance", .free "int", .free "tuple", .free "len", .free "any", .free "TypeError", .free "enumerate", .free "list", .free "bool", .free "str", .free "abs", .free "zip", .free "sorted", .free "super", .free "repr", .int "MOST_PLACES" 8000, .mkr "Key", .noat "Key" "system", .noat "Key" "own_cuts", .noat "Key" "places", .mkr "System", .noat "System" "depths", .noat "System" "master", .mkr "Crossing", .noat "Crossing" "key", .noat "Crossing" "other", .noat "Crossing" "places", .glo "KeyingError", .glo "BadSystem", .meth "BadSystem" "__init__", .noat "BadSystem" "part", .glo "BadCut", .meth "BadCut" "__init__", .noat "BadCut" "value", .glo "BadKey", .meth "BadKey" "__init__", .noat "BadKey" "value", .glo "TooMany", .meth "TooMany" "__init__", .noat "TooMany" "what", .noat "TooMany" "most"]
def sysB (K : PySem.W.Frag) : Bool := match K.lookup sysModules with
  | some o => decide (o.cls = .type "dict")
  | none => false
def exs : List (PySem.W.Frag → Bool) := [fun K => sysB K,
  fun K => insB K (ga K "Depths"),
  fun K => farB K (ga K "Depths"),
  fun K => insB K (ga K "Key"),
  fun K => eqB K (ga K "Key"),
  fun K => subB K (ga K "Key"),
  fun K => fmtOB K (ga K "Key"),
  fun K => strB K (ga K "Key"),
  fun K => propB K (ga K "Key") "cuts",
  fun K => PySem.W.readsIn K (ga K "Key") (.type "type"),
  fun K => cmB K (ga K "Key") "of",
  fun K => farB K (ga K "Key"),
  fun K => nfB K (ga K "Key"),
  fun K => insB K (ga K "System"),
  fun K => eqB K (ga K "System"),
  fun K => subB K (ga K "System"),
  fun K => farB K (ga K "System"),
  fun K => nfB K (ga K "System"),
  fun K => insB K (ga K "Crossing"),
  fun K => eqB K (ga K "Crossing"),
  fun K => subB K (ga K "Crossing"),
  fun K => fmtOB K (ga K "Crossing"),
  fun K => strB K (ga K "Crossing"),
  fun K => farB K (ga K "Crossing"),
  fun K => nfB K (ga K "Crossing"),
  fun K => kitB K (.ref (ga K "Depths")) (.ref (ga K "Depths")) true,
  fun K => kitB K (.ref (ga K "Depths")) (.ref (ga K "Key")) false,
  fun K => kitB K (.ref (ga K "Depths")) (.ref (ga K "System")) false,
  fun K => kitB K (.ref (ga K "Depths")) (.ref (ga K "Crossing")) false,
  fun K => kitB K (.ref (ga K "Depths")) (.type "int") false,
  fun K => kitB K (.ref (ga K "Depths")) (.type "bool") false,
  fun K => kitB K (.ref (ga K "Depths")) (.type "str") false,
  fun K => kitB K (.ref (ga K "Depths")) (.type "list") false,
  fun K => kitB K (.ref (ga K "Depths")) (.type "tuple") false,
  fun K => PySem.W.notFirst K (ga K "Key") (.ref (ga K "Depths")),
  fun K => PySem.W.notFirst K (ga K "System") (.ref (ga K "Depths")),
  fun K => PySem.W.notFirst K (ga K "Crossing") (.ref (ga K "Depths")),
  fun K => kitB K (.ref (ga K "Key")) (.ref (ga K "Depths")) false,
  fun K => kitB K (.ref (ga K "Key")) (.ref (ga K "Key")) true,
  fun K => kitB K (.ref (ga K "Key")) (.ref (ga K "System")) false,
  fun K => kitB K (.ref (ga K "Key")) (.ref (ga K "Crossing")) false,
  fun K => kitB K (.ref (ga K "Key")) (.type "int") false,
  fun K => kitB K (.ref (ga K "Key")) (.type "bool") false,
  fun K => kitB K (.ref (ga K "Key")) (.type "str") false,
  fun K => kitB K (.ref (ga K "Key")) (.type "list") false,
  fun K => kitB K (.ref (ga K "Key")) (.type "tuple") false,
  fun K => PySem.W.notFirst K (ga K "System") (.ref (ga K "Key")),
  fun K => PySem.W.notFirst K (ga K "Crossing") (.ref (ga K "Key")),
  fun K => kitB K (.ref (ga K "System")) (.ref (ga K "Depths")) true,
  fun K => kitB K (.ref (ga K "System")) (.ref (ga K "Key")) false,
  fun K => kitB K (.ref (ga K "System")) (.ref (ga K "System")) true,
  fun K => kitB K (.ref (ga K "System")) (.ref (ga K "Crossing")) false,
  fun K => kitB K (.ref (ga K "System")) (.type "int") false,
  fun K => kitB K (.ref (ga K "System")) (.type "bool") false,
  fun K => kitB K (.ref (ga K "System")) (.type "str") false,
  fun K => kitB K (.ref (ga K "System")) (.type "list") false,
  fun K => kitB K (.ref (ga K "System")) (.type "tuple") false,
  fun K => PySem.W.notFirst K (ga K "Key") (.ref (ga K "System")),
  fun K => PySem.W.notFirst K (ga K "Crossing") (.ref (ga K "System")),
  fun K => kitB K (.ref (ga K "Crossing")) (.ref (ga K "Depths")) false,
  fun K => kitB K (.ref (ga K "Crossing")) (.ref (ga K "Key")) false,
  fun K => kitB K (.ref (ga K "Crossing")) (.ref (ga K "System")) false,
  fun K => kitB K (.ref (ga K "Crossing")) (.ref (ga K "Crossing")) true,
  fun K => kitB K (.ref (ga K "Crossing")) (.type "int") false,
  fun K => kitB K (.ref (ga K "Crossing")) (.type "bool") false,
  fun K => kitB K (.ref (ga K "Crossing")) (.type "str") false,
  fun K => kitB K (.ref (ga K "Crossing")) (.type "list") false,
  fun K => kitB K (.ref (ga K "Crossing")) (.type "tuple") false,
  fun K => PySem.W.notFirst K (ga K "Key") (.ref (ga K "Crossing")),
  fun K => PySem.W.notFirst K (ga K "System") (.ref (ga K "Crossing")),
  fun K => supB PySem.Challenge.pw_tenantcuts_k46_crossings_made K (ma K (ga K "System") "__init__") (ga K "System") (ga K "System") "self" "__init__",
  fun K => decide (upA K (ga K "System") (ga K "System") "__init__" = ma K (ga K "Depths") "__init__"),
  fun K => ercB K "BadSystem",
  fun K => ercB K "BadCut",
  fun K => ercB K "BadKey",
  fun K => ercB K "TooMany"]
def exB (K : PySem.W.Frag) : Bool := exs.all fun f => f K
abbrev R : PySem.W.OpenRow := PySem.W.OpenLaw.row PySem.Challenge.rw_tenantcuts_k46_crossings_made
abbrev hk : PySem.W.Hook := hookH 5 fa fn exB
def ob (s : PySem.W.SharedT) : AlH := obsHG 5 fa fn exB (HandSHeadRun.getT s)
theorem ob_eq (s : PySem.W.SharedT) : ob s = hk.obs s.abs := obsHG_eq (HandSHeadRun.getT_eq s)
def loose : List Str := ([("_wall" : Str), ("KeyingError" : Str), ("BadSystem" : Str), ("BadCut" : Str), ("BadKey" : Str), ("BadPlace" : Str), ("Unlike" : Str), ("Clash" : Str), ("TooMany" : Str), ("BadText" : Str), ("FIGURES" : Str), ("is_whole" : Str), ("is_between" : Str), ("figure_in" : Str), ("Depths" : Str), ("MOST_PLACES" : Str), ("need_system" : Str), ("need_alike" : Str), ("is_opening" : Str), ("joined_cut" : Str), ("Key" : Str), ("System" : Str), ("Crossing" : Str), ("_law_pen" : Str), ("_law_draw" : Str), ("_law_pick" : Str), ("_law_key" : Str), ("_law_thing" : Str)] : List Str)
abbrev qv : Program := PySem.W.view R.prog [35]
/-- what is known of the written part and the module's names -/
structure Wd (K : PySem.W.Frag) (mg : Str → Option Value) : Prop where
  says : SaysH fa fn exB K
  gl : ∀ x r, PySem.W.nsIn K mainGlobals x = some r → mg x = r
section
variable {K : PySem.W.Frag} {mg : Str → Option Value} (W : Wd K mg)
include W
theorem Wd.one (i : Nat) {f : PySem.W.Frag → Bool} (h : exs[i]? = some f := by rfl) : f K = true := List.all_eq_true.mp W.says.also f (List.mem_of_getElem? h)
theorem Wd.fct (i : Nat) {f : He.Fa} (h : fa[i]? = some f := by rfl) : f.ok K = true := W.says.fact (List.mem_of_getElem? h)
theorem Wd.dfn (i : Nat) {d : DefH} (h : fn[i]? = some d := by rfl) : d ∈ fn := List.mem_of_getElem? h
theorem Wd.g_is_whole : mg "is_whole" = some (.ref (ga K "is_whole")) := W.gl _ _ (eqO_ok (W.fct 0 (f := .glo "is_whole")))
theorem Wd.g_is_between : mg "is_between" = some (.ref (ga K "is_between")) := W.gl _ _ (eqO_ok (W.fct 1 (f := .glo "is_between")))
theorem Wd.g_need_system : mg "need_system" = some (.ref (ga K "need_system")) := W.gl _ _ (eqO_ok (W.fct 2 (f := .glo "need_system")))
theorem Wd.g__law_pen : mg "_law_pen" = some (.ref (ga K "_law_pen")) := W.gl _ _ (eqO_ok (W.fct 3 (f := .glo "_law_pen")))
theorem Wd.g__law_draw : mg "_law_draw" = some (.ref (ga K "_law_draw")) := W.gl _ _ (eqO_ok (W.fct 4 (f := .glo "_law_draw")))
theorem Wd.g__law_pick : mg "_law_pick" = some (.ref (ga K "_law_pick")) := W.gl _ _ (eqO_ok (W.fct 5 (f := .glo "_law_pick")))
theorem Wd.g__law_key : mg "_law_key" = some (.ref (ga K "_law_key")) := W.gl _ _ (eqO_ok (W.fct 6 (f := .glo "_law_key")))
theorem Wd.g__law_thing : mg "_law_thing" = some (.ref (ga K "_law_thing")) := W.gl _ _ (eqO_ok (W.fct 7 (f := .glo "_law_thing")))
theorem Wd.g_law : mg "law" = some (.ref (ga K "law")) := W.gl _ _ (eqO_ok (W.fct 8 (f := .glo "law")))
theorem Wd.g_Depths : mg "Depths" = some (.ref (ga K "Depths")) := W.gl _ _ (eqO_ok (W.fct 9 (f := .glo "Depths")))
theorem Wd.g_Key : mg "Key" = some (.ref (ga K "Key")) := W.gl _ _ (eqO_ok (W.fct 10 (f := .glo "Key")))
theorem Wd.g_System : mg "System" = some (.ref (ga K "System")) := W.gl _ _ (eqO_ok (W.fct 11 (f := .glo "System")))
theorem Wd.g_Crossing : mg "Crossing" = some (.ref (ga K "Crossing")) := W.gl _ _ (eqO_ok (W.fct 12 (f := .glo "Crossing")))
theorem Wd.b_ValueError : mg "ValueError" = none := W.gl _ _ (eqO_ok (W.fct 13 (f := .free "ValueError")))
theorem Wd.b_all : mg "all" = none := W.gl _ _ (eqO_ok (W.fct 14 (f := .free "all")))
theorem Wd.b_range : mg "range" = none := W.gl _ _ (eqO_ok (W.fct 15 (f := .free "range")))
theorem Wd.b_isinstance : mg "isinstance" = none := W.gl _ _ (eqO_ok (W.fct 16 (f := .free "isinstance")))
theorem Wd.b_int : mg "int" = none := W.gl _ _ (eqO_ok (W.fct 17 (f := .free "int")))
theorem Wd.b_tuple : mg "tuple" = none := W.gl _ _ (eqO_ok (W.fct 18 (f := .free "tuple")))
theorem Wd.b_len : mg "len" = none := W.gl _ _ (eqO_ok (W.fct 19 (f := .free "len")))
theorem Wd.b_any : mg "any" = none := W.gl _ _ (eqO_ok (W.fct 20 (f := .free "any")))
theorem Wd.b_TypeError : mg "TypeError" = none := W.gl _ _ (eqO_ok (W.fct 21 (f := .free "TypeError")))
theorem Wd.b_enumerate : mg "enumerate" = none := W.gl _ _ (eqO_ok (W.fct 22 (f := .free "enumerate")))
theorem Wd.b_list : mg "list" = none := W.gl _ _ (eqO_ok (W.fct 23 (f := .free "list")))
theorem Wd.b_bool : mg "bool" = none := W.gl _ _ (eqO_ok (W.fct 24 (f := .free "bool")))
theorem Wd.b_str : mg "str" = none := W.gl _ _ (eqO_ok (W.fct 25 (f := .free "str")))
theorem Wd.b_abs : mg "abs" = none := W.gl _ _ (eqO_ok (W.fct 26 (f := .free "abs")))
theorem Wd.b_zip : mg "zip" = none := W.gl _ _ (eqO_ok (W.fct 27 (f := .free "zip")))
theorem Wd.b_sorted : mg "sorted" = none := W.gl _ _ (eqO_ok (W.fct 28 (f := .free "sorted")))
theorem Wd.b_super : mg "super" = none := W.gl _ _ (eqO_ok (W.fct 29 (f := .free "super")))
theorem Wd.b_repr : mg "repr" = none := W.gl _ _ (eqO_ok (W.fct 30 (f := .free "repr")))
theorem Wd.n_MOST_PLACES : ∃ t, mg "MOST_PLACES" = some (.int 8000 t) := by
  have c : (match PySem.W.nsIn K mainGlobals "MOST_PLACES" with
    | some (some (.int j _)) => decide (j = 8000)
    | _ => false) = true := W.fct 31 (f := .int "MOST_PLACES" 8000)
  split at c
  · rename_i j t e
    exact ⟨t, by rw [W.gl _ _ e, of_decide_eq_true c]⟩
  · cases c
theorem Wd.x_Key : Mk K (ga K "Key") (ma K (ga K "Key") "__init__") := mkr_ok (W.fct 32 (f := .mkr "Key"))
theorem Wd.o_Key_system : NoAttr K (ga K "Key") "system" := noat_ok (W.fct 33 (f := .noat "Key" "system"))
theorem Wd.o_Key_own_cuts : NoAttr K (ga K "Key") "own_cuts" := noat_ok (W.fct 34 (f := .noat "Key" "own_cuts"))
theorem Wd.o_Key_places : NoAttr K (ga K "Key") "places" := noat_ok (W.fct 35 (f := .noat "Key" "places"))
theorem Wd.x_System : Mk K (ga K "System") (ma K (ga K "System") "__init__") := mkr_ok (W.fct 36 (f := .mkr "System"))
theorem Wd.o_System_depths : NoAttr K (ga K "System") "depths" := noat_ok (W.fct 37 (f := .noat "System" "depths"))
theorem Wd.o_System_master : NoAttr K (ga K "System") "master" := noat_ok (W.fct 38 (f := .noat "System" "master"))
theorem Wd.x_Crossing : Mk K (ga K "Crossing") (ma K (ga K "Crossing") "__init__") := mkr_ok (W.fct 39 (f := .mkr "Crossing"))
theorem Wd.o_Crossing_key : NoAttr K (ga K "Crossing") "key" := noat_ok (W.fct 40 (f := .noat "Crossing" "key"))
theorem Wd.o_Crossing_other : NoAttr K (ga K "Crossing") "other" := noat_ok (W.fct 41 (f := .noat "Crossing" "other"))
theorem Wd.o_Crossing_places : NoAttr K (ga K "Crossing") "places" := noat_ok (W.fct 42 (f := .noat "Crossing" "places"))
theorem Wd.g_KeyingError : mg "KeyingError" = some (.ref (ga K "KeyingError")) := W.gl _ _ (eqO_ok (W.fct 43 (f := .glo "KeyingError")))
theorem Wd.g_BadSystem : mg "BadSystem" = some (.ref (ga K "BadSystem")) := W.gl _ _ (eqO_ok (W.fct 44 (f := .glo "BadSystem")))
theorem Wd.m_BadSystem___init__ : Meth K (ga K "BadSystem") "__init__" (ma K (ga K "BadSystem") "__init__") := meth_ok (W.fct 45 (f := .meth "BadSystem" "__init__"))
theorem Wd.o_BadSystem_part : NoAttr K (ga K "BadSystem") "part" := noat_ok (W.fct 46 (f := .noat "BadSystem" "part"))
theorem Wd.g_BadCut : mg "BadCut" = some (.ref (ga K "BadCut")) := W.gl _ _ (eqO_ok (W.fct 47 (f := .glo "BadCut")))
theorem Wd.m_BadCut___init__ : Meth K (ga K "BadCut") "__init__" (ma K (ga K "BadCut") "__init__") := meth_ok (W.fct 48 (f := .meth "BadCut" "__init__"))
theorem Wd.o_BadCut_value : NoAttr K (ga K "BadCut") "value" := noat_ok (W.fct 49 (f := .noat "BadCut" "value"))
theorem Wd.g_BadKey : mg "BadKey" = some (.ref (ga K "BadKey")) := W.gl _ _ (eqO_ok (W.fct 50 (f := .glo "BadKey")))
theorem Wd.m_BadKey___init__ : Meth K (ga K "BadKey") "__init__" (ma K (ga K "BadKey") "__init__") := meth_ok (W.fct 51 (f := .meth "BadKey" "__init__"))
theorem Wd.o_BadKey_value : NoAttr K (ga K "BadKey") "value" := noat_ok (W.fct 52 (f := .noat "BadKey" "value"))
theorem Wd.g_TooMany : mg "TooMany" = some (.ref (ga K "TooMany")) := W.gl _ _ (eqO_ok (W.fct 53 (f := .glo "TooMany")))
theorem Wd.m_TooMany___init__ : Meth K (ga K "TooMany") "__init__" (ma K (ga K "TooMany") "__init__") := meth_ok (W.fct 54 (f := .meth "TooMany" "__init__"))
theorem Wd.o_TooMany_what : NoAttr K (ga K "TooMany") "what" := noat_ok (W.fct 55 (f := .noat "TooMany" "what"))
theorem Wd.o_TooMany_most : NoAttr K (ga K "TooMany") "most" := noat_ok (W.fct 56 (f := .noat "TooMany" "most"))
theorem Wd.k_Depths : InsK K (ga K "Depths") := insB_ok (W.one 1 (f := fun K => insB K (ga K "Depths")))
theorem Wd.far_Depths : ∀ t ∈ tys, PySem.W.kitOne K t (.ref (ga K "Depths")) = some false := fun t ht => kitB_ok (List.all_eq_true.mp (W.one 2 (f := fun K => farB K (ga K "Depths"))) t ht)
theorem Wd.k_Key : InsK K (ga K "Key") := insB_ok (W.one 3 (f := fun K => insB K (ga K "Key")))
theorem Wd.q_Key : EqC K (ga K "Key") (ma K (ga K "Key") "__eq__") := eqB_ok (W.one 4 (f := fun K => eqB K (ga K "Key")))
theorem Wd.sb_Key : ∀ t ∈ bts, PySem.W.subIn K (.ref (ga K "Key")) (.type t) = some false := subB_ok (W.one 5 (f := fun K => subB K (ga K "Key")))
theorem Wd.fm_Key : FmtO K (ga K "Key") (ma K (ga K "Key") "__str__") := fmtOB_ok (W.one 6 (f := fun K => fmtOB K (ga K "Key")))
theorem Wd.t_Key : StrC K (ga K "Key") (ma K (ga K "Key") "__str__") := strB_ok (W.one 7 (f := fun K => strB K (ga K "Key")))
theorem Wd.p_Key_cuts : PropOf K (ga K "Key") "cuts" (ma K (ga K "Key") "cuts") (pgA K (ga K "Key") "cuts") := propB_ok (W.one 8 (f := fun K => propB K (ga K "Key") "cuts"))
theorem Wd.r_Key : ClX.CRead K (ga K "Key") (.type "type") := cread_ok (W.one 9 (f := fun K => PySem.W.readsIn K (ga K "Key") (.type "type")))
theorem Wd.c_Key_of : ClX.CMet K (ga K "Key") (.type "type") "of" (ma K (ga K "Key") "of") (cmA K (ga K "Key") "of") := cmB_ok (W.one 10 (f := fun K => cmB K (ga K "Key") "of"))
theorem Wd.far_Key : ∀ t ∈ tys, PySem.W.kitOne K t (.ref (ga K "Key")) = some false := fun t ht => kitB_ok (List.all_eq_true.mp (W.one 11 (f := fun K => farB K (ga K "Key"))) t ht)
theorem Wd.nf_Key : ∀ t ∈ tys, PySem.W.notFirst K (ga K "Key") t = true := fun t ht => List.all_eq_true.mp (W.one 12 (f := fun K => nfB K (ga K "Key"))) t ht
theorem Wd.k_System : InsK K (ga K "System") := insB_ok (W.one 13 (f := fun K => insB K (ga K "System")))
theorem Wd.q_System : EqC K (ga K "System") (ma K (ga K "System") "__eq__") := eqB_ok (W.one 14 (f := fun K => eqB K (ga K "System")))
theorem Wd.sb_System : ∀ t ∈ bts, PySem.W.subIn K (.ref (ga K "System")) (.type t) = some false := subB_ok (W.one 15 (f := fun K => subB K (ga K "System")))
theorem Wd.far_System : ∀ t ∈ tys, PySem.W.kitOne K t (.ref (ga K "System")) = some false := fun t ht => kitB_ok (List.all_eq_true.mp (W.one 16 (f := fun K => farB K (ga K "System"))) t ht)
theorem Wd.nf_System : ∀ t ∈ tys, PySem.W.notFirst K (ga K "System") t = true := fun t ht => List.all_eq_true.mp (W.one 17 (f := fun K => nfB K (ga K "System"))) t ht
theorem Wd.k_Crossing : InsK K (ga K "Crossing") := insB_ok (W.one 18 (f := fun K => insB K (ga K "Crossing")))
theorem Wd.q_Crossing : EqC K (ga K "Crossing") (ma K (ga K "Crossing") "__eq__") := eqB_ok (W.one 19 (f := fun K => eqB K (ga K "Crossing")))
theorem Wd.sb_Crossing : ∀ t ∈ bts, PySem.W.subIn K (.ref (ga K "Crossing")) (.type t) = some false := subB_ok (W.one 20 (f := fun K => subB K (ga K "Crossing")))
theorem Wd.fm_Crossing : FmtO K (ga K "Crossing") (ma K (ga K "Crossing") "__str__") := fmtOB_ok (W.one 21 (f := fun K => fmtOB K (ga K "Crossing")))
theorem Wd.t_Crossing : StrC K (ga K "Crossing") (ma K (ga K "Crossing") "__str__") := strB_ok (W.one 22 (f := fun K => strB K (ga K "Crossing")))
theorem Wd.far_Crossing : ∀ t ∈ tys, PySem.W.kitOne K t (.ref (ga K "Crossing")) = some false := fun t ht => kitB_ok (List.all_eq_true.mp (W.one 23 (f := fun K => farB K (ga K "Crossing"))) t ht)
theorem Wd.nf_Crossing : ∀ t ∈ tys, PySem.W.notFirst K (ga K "Crossing") t = true := fun t ht => List.all_eq_true.mp (W.one 24 (f := fun K => nfB K (ga K "Crossing"))) t ht
theorem Wd.i_Depths_Depths : PySem.W.kitOne K (.ref (ga K "Depths")) (.ref (ga K "Depths")) = some true := kitB_ok (W.one 25 (f := fun K => kitB K (.ref (ga K "Depths")) (.ref (ga K "Depths")) true))
theorem Wd.i_Depths_Key : PySem.W.kitOne K (.ref (ga K "Depths")) (.ref (ga K "Key")) = some false := kitB_ok (W.one 26 (f := fun K => kitB K (.ref (ga K "Depths")) (.ref (ga K "Key")) false))
theorem Wd.i_Depths_System : PySem.W.kitOne K (.ref (ga K "Depths")) (.ref (ga K "System")) = some false := kitB_ok (W.one 27 (f := fun K => kitB K (.ref (ga K "Depths")) (.ref (ga K "System")) false))
theorem Wd.i_Depths_Crossing : PySem.W.kitOne K (.ref (ga K "Depths")) (.ref (ga K "Crossing")) = some false := kitB_ok (W.one 28 (f := fun K => kitB K (.ref (ga K "Depths")) (.ref (ga K "Crossing")) false))
theorem Wd.i_Depths_int : PySem.W.kitOne K (.ref (ga K "Depths")) (.type "int") = some false := kitB_ok (W.one 29 (f := fun K => kitB K (.ref (ga K "Depths")) (.type "int") false))
theorem Wd.i_Depths_bool : PySem.W.kitOne K (.ref (ga K "Depths")) (.type "bool") = some false := kitB_ok (W.one 30 (f := fun K => kitB K (.ref (ga K "Depths")) (.type "bool") false))
theorem Wd.i_Depths_str : PySem.W.kitOne K (.ref (ga K "Depths")) (.type "str") = some false := kitB_ok (W.one 31 (f := fun K => kitB K (.ref (ga K "Depths")) (.type "str") false))
theorem Wd.i_Depths_list : PySem.W.kitOne K (.ref (ga K "Depths")) (.type "list") = some false := kitB_ok (W.one 32 (f := fun K => kitB K (.ref (ga K "Depths")) (.type "list") false))
theorem Wd.i_Depths_tuple : PySem.W.kitOne K (.ref (ga K "Depths")) (.type "tuple") = some false := kitB_ok (W.one 33 (f := fun K => kitB K (.ref (ga K "Depths")) (.type "tuple") false))
theorem Wd.n_Key_Depths : PySem.W.notFirst K (ga K "Key") (.ref (ga K "Depths")) = true := W.one 34 (f := fun K => PySem.W.notFirst K (ga K "Key") (.ref (ga K "Depths")))
theorem Wd.n_System_Depths : PySem.W.notFirst K (ga K "System") (.ref (ga K "Depths")) = true := W.one 35 (f := fun K => PySem.W.notFirst K (ga K "System") (.ref (ga K "Depths")))
theorem Wd.n_Crossing_Depths : PySem.W.notFirst K (ga K "Crossing") (.ref (ga K "Depths")) = true := W.one 36 (f := fun K => PySem.W.notFirst K (ga K "Crossing") (.ref (ga K "Depths")))
theorem Wd.i_Key_Depths : PySem.W.kitOne K (.ref (ga K "Key")) (.ref (ga K "Depths")) = some false := kitB_ok (W.one 37 (f := fun K => kitB K (.ref (ga K "Key")) (.ref (ga K "Depths")) false))
theorem Wd.i_Key_Key : PySem.W.kitOne K (.ref (ga K "Key")) (.ref (ga K "Key")) = some true := kitB_ok (W.one 38 (f := fun K => kitB K (.ref (ga K "Key")) (.ref (ga K "Key")) true))
theorem Wd.i_Key_System : PySem.W.kitOne K (.ref (ga K "Key")) (.ref (ga K "System")) = some false := kitB_ok (W.one 39 (f := fun K => kitB K (.ref (ga K "Key")) (.ref (ga K "System")) false))
theorem Wd.i_Key_Crossing : PySem.W.kitOne K (.ref (ga K "Key")) (.ref (ga K "Crossing")) = some false := kitB_ok (W.one 40 (f := fun K => kitB K (.ref (ga K "Key")) (.ref (ga K "Crossing")) false))
theorem Wd.i_Key_int : PySem.W.kitOne K (.ref (ga K "Key")) (.type "int") = some false := kitB_ok (W.one 41 (f := fun K => kitB K (.ref (ga K "Key")) (.type "int") false))
theorem Wd.i_Key_bool : PySem.W.kitOne K (.ref (ga K "Key")) (.type "bool") = some false := kitB_ok (W.one 42 (f := fun K => kitB K (.ref (ga K "Key")) (.type "bool") false))
theorem Wd.i_Key_str : PySem.W.kitOne K (.ref (ga K "Key")) (.type "str") = some false := kitB_ok (W.one 43 (f := fun K => kitB K (.ref (ga K "Key")) (.type "str") false))
theorem Wd.i_Key_list : PySem.W.kitOne K (.ref (ga K "Key")) (.type "list") = some false := kitB_ok (W.one 44 (f := fun K => kitB K (.ref (ga K "Key")) (.type "list") false))
theorem Wd.i_Key_tuple : PySem.W.kitOne K (.ref (ga K "Key")) (.type "tuple") = some false := kitB_ok (W.one 45 (f := fun K => kitB K (.ref (ga K "Key")) (.type "tuple") false))
theorem Wd.n_System_Key : PySem.W.notFirst K (ga K "System") (.ref (ga K "Key")) = true := W.one 46 (f := fun K => PySem.W.notFirst K (ga K "System") (.ref (ga K "Key")))
theorem Wd.n_Crossing_Key : PySem.W.notFirst K (ga K "Crossing") (.ref (ga K "Key")) = true := W.one 47 (f := fun K => PySem.W.notFirst K (ga K "Crossing") (.ref (ga K "Key")))
theorem Wd.i_System_Depths : PySem.W.kitOne K (.ref (ga K "System")) (.ref (ga K "Depths")) = some true := kitB_ok (W.one 48 (f := fun K => kitB K (.ref (ga K "System")) (.ref (ga K "Depths")) true))
theorem Wd.i_System_Key : PySem.W.kitOne K (.ref (ga K "System")) (.ref (ga K "Key")) = some false := kitB_ok (W.one 49 (f := fun K => kitB K (.ref (ga K "System")) (.ref (ga K "Key")) false))
theorem Wd.i_System_System : PySem.W.kitOne K (.ref (ga K "System")) (.ref (ga K "System")) = some true := kitB_ok (W.one 50 (f := fun K => kitB K (.ref (ga K "System")) (.ref (ga K "System")) true))
theorem Wd.i_System_Crossing : PySem.W.kitOne K (.ref (ga K "System")) (.ref (ga K "Crossing")) = some false := kitB_ok (W.one 51 (f := fun K => kitB K (.ref (ga K "System")) (.ref (ga K "Crossing")) false))
theorem Wd.i_System_int : PySem.W.kitOne K (.ref (ga K "System")) (.type "int") = some false := kitB_ok (W.one 52 (f := fun K => kitB K (.ref (ga K "System")) (.type "int") false))
theorem Wd.i_System_bool : PySem.W.kitOne K (.ref (ga K "System")) (.type "bool") = some false := kitB_ok (W.one 53 (f := fun K => kitB K (.ref (ga K "System")) (.type "bool") false))
theorem Wd.i_System_str : PySem.W.kitOne K (.ref (ga K "System")) (.type "str") = some false := kitB_ok (W.one 54 (f := fun K => kitB K (.ref (ga K "System")) (.type "str") false))
theorem Wd.i_System_list : PySem.W.kitOne K (.ref (ga K "System")) (.type "list") = some false := kitB_ok (W.one 55 (f := fun K => kitB K (.ref (ga K "System")) (.type "list") false))
theorem Wd.i_System_tuple : PySem.W.kitOne K (.ref (ga K "System")) (.type "tuple") = some false := kitB_ok (W.one 56 (f := fun K => kitB K (.ref (ga K "System")) (.type "tuple") false))
theorem Wd.n_Key_System : PySem.W.notFirst K (ga K "Key") (.ref (ga K "System")) = true := W.one 57 (f := fun K => PySem.W.notFirst K (ga K "Key") (.ref (ga K "System")))
theorem Wd.n_Crossing_System : PySem.W.notFirst K (ga K "Crossing") (.ref (ga K "System")) = true := W.one 58 (f := fun K => PySem.W.notFirst K (ga K "Crossing") (.ref (ga K "System")))
theorem Wd.i_Crossing_Depths : PySem.W.kitOne K (.ref (ga K "Crossing")) (.ref (ga K "Depths")) = some false := kitB_ok (W.one 59 (f := fun K => kitB K (.ref (ga K "Crossing")) (.ref (ga K "Depths")) false))
theorem Wd.i_Crossing_Key : PySem.W.kitOne K (.ref (ga K "Crossing")) (.ref (ga K "Key")) = some false := kitB_ok (W.one 60 (f := fun K => kitB K (.ref (ga K "Crossing")) (.ref (ga K "Key")) false))
theorem Wd.i_Crossing_System : PySem.W.kitOne K (.ref (ga K "Crossing")) (.ref (ga K "System")) = some false := kitB_ok (W.one 61 (f := fun K => kitB K (.ref (ga K "Crossing")) (.ref (ga K "System")) false))
theorem Wd.i_Crossing_Crossing : PySem.W.kitOne K (.ref (ga K "Crossing")) (.ref (ga K "Crossing")) = some true := kitB_ok (W.one 62 (f := fun K => kitB K (.ref (ga K "Crossing")) (.ref (ga K "Crossing")) true))
theorem Wd.i_Crossing_int : PySem.W.kitOne K (.ref (ga K "Crossing")) (.type "int") = some false := kitB_ok (W.one 63 (f := fun K => kitB K (.ref (ga K "Crossing")) (.type "int") false))
theorem Wd.i_Crossing_bool : PySem.W.kitOne K (.ref (ga K "Crossing")) (.type "bool") = some false := kitB_ok (W.one 64 (f := fun K => kitB K (.ref (ga K "Crossing")) (.type "bool") false))
theorem Wd.i_Crossing_str : PySem.W.kitOne K (.ref (ga K "Crossing")) (.type "str") = some false := kitB_ok (W.one 65 (f := fun K => kitB K (.ref (ga K "Crossing")) (.type "str") false))
theorem Wd.i_Crossing_list : PySem.W.kitOne K (.ref (ga K "Crossing")) (.type "list") = some false := kitB_ok (W.one 66 (f := fun K => kitB K (.ref (ga K "Crossing")) (.type "list") false))
theorem Wd.i_Crossing_tuple : PySem.W.kitOne K (.ref (ga K "Crossing")) (.type "tuple") = some false := kitB_ok (W.one 67 (f := fun K => kitB K (.ref (ga K "Crossing")) (.type "tuple") false))
theorem Wd.n_Key_Crossing : PySem.W.notFirst K (ga K "Key") (.ref (ga K "Crossing")) = true := W.one 68 (f := fun K => PySem.W.notFirst K (ga K "Key") (.ref (ga K "Crossing")))
theorem Wd.n_System_Crossing : PySem.W.notFirst K (ga K "System") (.ref (ga K "Crossing")) = true := W.one 69 (f := fun K => PySem.W.notFirst K (ga K "System") (.ref (ga K "Crossing")))
theorem Wd.u_System___init___System : SupF PySem.Challenge.pw_tenantcuts_k46_crossings_made K (ma K (ga K "System") "__init__") (cdA K (ma K (ga K "System") "__init__")) (ccA K (ma K (ga K "System") "__init__")) (ga K "System") (ga K "System") (upA K (ga K "System") (ga K "System") "__init__") "self" "__init__" := supB_ok (W.one 70 (f := fun K => supB PySem.Challenge.pw_tenantcuts_k46_crossings_made K (ma K (ga K "System") "__init__") (ga K "System") (ga K "System") "self" "__init__")) (by decide +kernel)
theorem Wd.ua_System___init___System : upA K (ga K "System") (ga K "System") "__init__" = ma K (ga K "Depths") "__init__" := of_decide_eq_true (W.one 71 (f := fun K => decide (upA K (ga K "System") (ga K "System") "__init__" = ma K (ga K "Depths") "__init__")))
theorem Wd.er_BadSystem : ErC K "BadSystem" := ercB_ok (W.one 72 (f := fun K => ercB K "BadSystem"))
theorem Wd.er_BadCut : ErC K "BadCut" := ercB_ok (W.one 73 (f := fun K => ercB K "BadCut"))
theorem Wd.er_BadKey : ErC K "BadKey" := ercB_ok (W.one 74 (f := fun K => ercB K "BadKey"))
theorem Wd.er_TooMany : ErC K "TooMany" := ercB_ok (W.one 75 (f := fun K => ercB K "TooMany"))
theorem Wd.f_is_whole : ∃ fd, FunD K d_is_whole.name d_is_whole.qual (defArgs s_is_whole) (defBody s_is_whole) (defScope s_is_whole) (d_is_whole.dvs K) [] (d_is_whole.at_ K) fd := W.says.fun_ (W.dfn 0 (d := d_is_whole))
theorem Wd.f_is_between : ∃ fd, FunD K d_is_between.name d_is_between.qual (defArgs s_is_between) (defBody s_is_between) (defScope s_is_between) (d_is_between.dvs K) [] (d_is_between.at_ K) fd := W.says.fun_ (W.dfn 1 (d := d_is_between))
theorem Wd.f_need_system : ∃ fd, FunD K d_need_system.name d_need_system.qual (defArgs s_need_system) (defBody s_need_system) (defScope s_need_system) (d_need_system.dvs K) [] (d_need_system.at_ K) fd := W.says.fun_ (W.dfn 2 (d := d_need_system))
theorem Wd.f_Depths___init__ : ∃ fd, FunD K d_Depths___init__.name d_Depths___init__.qual (defArgs s_Depths___init__) (defBody s_Depths___init__) (defScope s_Depths___init__) (d_Depths___init__.dvs K) [] (d_Depths___init__.at_ K) fd := W.says.fun_ (W.dfn 3 (d := d_Depths___init__))
theorem Wd.f_System___eq__ : ∃ fd, FunD K d_System___eq__.name d_System___eq__.qual (defArgs s_System___eq__) (defBody s_System___eq__) (defScope s_System___eq__) (d_System___eq__.dvs K) [] (d_System___eq__.at_ K) fd := W.says.fun_ (W.dfn 4 (d := d_System___eq__))
theorem Wd.f_Key_cuts : ∃ fd, FunD K d_Key_cuts.name d_Key_cuts.qual (defArgs s_Key_cuts) (defBody s_Key_cuts) (defScope s_Key_cuts) (d_Key_cuts.dvs K) [] (d_Key_cuts.at_ K) fd := W.says.fun_ (W.dfn 5 (d := d_Key_cuts))
theorem Wd.f_Key___init__ : ∃ fd, FunD K d_Key___init__.name d_Key___init__.qual (defArgs s_Key___init__) (defBody s_Key___init__) (defScope s_Key___init__) (d_Key___init__.dvs K) [] (d_Key___init__.at_ K) fd := W.says.fun_ (W.dfn 6 (d := d_Key___init__))
theorem Wd.f_Key_of : ∃ fd, FunD K d_Key_of.name d_Key_of.qual (defArgs s_Key_of) (defBody s_Key_of) (defScope s_Key_of) (d_Key_of.dvs K) [] (d_Key_of.at_ K) fd := W.says.fun_ (W.dfn 7 (d := d_Key_of))
theorem Wd.f_Key___eq__ : ∃ fd, FunD K d_Key___eq__.name d_Key___eq__.qual (defArgs s_Key___eq__) (defBody s_Key___eq__) (defScope s_Key___eq__) (d_Key___eq__.dvs K) [] (d_Key___eq__.at_ K) fd := W.says.fun_ (W.dfn 8 (d := d_Key___eq__))
theorem Wd.f_Key___str__ : ∃ fd, FunD K d_Key___str__.name d_Key___str__.qual (defArgs s_Key___str__) (defBody s_Key___str__) (defScope s_Key___str__) (d_Key___str__.dvs K) [] (d_Key___str__.at_ K) fd := W.says.fun_ (W.dfn 9 (d := d_Key___str__))
theorem Wd.f_System___init__ : ∃ fd, FunC K d_System___init__.name d_System___init__.qual (defArgs s_System___init__) (defBody s_System___init__) (defScope s_System___init__) (d_System___init__.dvs K) (d_System___init__.at_ K) (cdA K (d_System___init__.at_ K)) (ccA K (d_System___init__.at_ K)) fd ∧ PySem.W.keepIn K (.ref (d_System___init__.at_ K)) = true := W.says.funC (W.dfn 10 (d := d_System___init__))
theorem Wd.f_Crossing___init__ : ∃ fd, FunD K d_Crossing___init__.name d_Crossing___init__.qual (defArgs s_Crossing___init__) (defBody s_Crossing___init__) (defScope s_Crossing___init__) (d_Crossing___init__.dvs K) [] (d_Crossing___init__.at_ K) fd := W.says.fun_ (W.dfn 11 (d := d_Crossing___init__))
theorem Wd.f_Crossing___eq__ : ∃ fd, FunD K d_Crossing___eq__.name d_Crossing___eq__.qual (defArgs s_Crossing___eq__) (defBody s_Crossing___eq__) (defScope s_Crossing___eq__) (d_Crossing___eq__.dvs K) [] (d_Crossing___eq__.at_ K) fd := W.says.fun_ (W.dfn 12 (d := d_Crossing___eq__))
theorem Wd.f_Crossing___str__ : ∃ fd, FunD K d_Crossing___str__.name d_Crossing___str__.qual (defArgs s_Crossing___str__) (defBody s_Crossing___str__) (defScope s_Crossing___str__) (d_Crossing___str__.dvs K) [] (d_Crossing___str__.at_ K) fd := W.says.fun_ (W.dfn 13 (d := d_Crossing___str__))
theorem Wd.f__law_pen : ∃ fd, FunD K d__law_pen.name d__law_pen.qual (defArgs s__law_pen) (defBody s__law_pen) (defScope s__law_pen) (d__law_pen.dvs K) [] (d__law_pen.at_ K) fd := W.says.fun_ (W.dfn 14 (d := d__law_pen))
theorem Wd.f__law_draw : ∃ fd, FunD K d__law_draw.name d__law_draw.qual (defArgs s__law_draw) (defBody s__law_draw) (defScope s__law_draw) (d__law_draw.dvs K) [] (d__law_draw.at_ K) fd := W.says.fun_ (W.dfn 15 (d := d__law_draw))
theorem Wd.f__law_pick : ∃ fd, FunD K d__law_pick.name d__law_pick.qual (defArgs s__law_pick) (defBody s__law_pick) (defScope s__law_pick) (d__law_pick.dvs K) [] (d__law_pick.at_ K) fd := W.says.fun_ (W.dfn 16 (d := d__law_pick))
theorem Wd.f__law_key : ∃ fd, FunD K d__law_key.name d__law_key.qual (defArgs s__law_key) (defBody s__law_key) (defScope s__law_key) (d__law_key.dvs K) [] (d__law_key.at_ K) fd := W.says.fun_ (W.dfn 17 (d := d__law_key))
theorem Wd.f__law_thing : ∃ fd, FunD K d__law_thing.name d__law_thing.qual (defArgs s__law_thing) (defBody s__law_thing) (defScope s__law_thing) (d__law_thing.dvs K) [] (d__law_thing.at_ K) fd := W.says.fun_ (W.dfn 18 (d := d__law_thing))
theorem Wd.f_law : ∃ fd, FunD K d_law.name d_law.qual (defArgs s_law) (defBody s_law) (defScope s_law) (d_law.dvs K) [] (d_law.at_ K) fd := W.says.fun_ (W.dfn 19 (d := d_law))
theorem Wd.f_BadSystem___init__ : ∃ fd, FunD K d_BadSystem___init__.name d_BadSystem___init__.qual (defArgs s_BadSystem___init__) (defBody s_BadSystem___init__) (defScope s_BadSystem___init__) (d_BadSystem___init__.dvs K) [] (d_BadSystem___init__.at_ K) fd := W.says.fun_ (W.dfn 20 (d := d_BadSystem___init__))
theorem Wd.f_BadCut___init__ : ∃ fd, FunD K d_BadCut___init__.name d_BadCut___init__.qual (defArgs s_BadCut___init__) (defBody s_BadCut___init__) (defScope s_BadCut___init__) (d_BadCut___init__.dvs K) [] (d_BadCut___init__.at_ K) fd := W.says.fun_ (W.dfn 21 (d := d_BadCut___init__))
theorem Wd.f_BadKey___init__ : ∃ fd, FunD K d_BadKey___init__.name d_BadKey___init__.qual (defArgs s_BadKey___init__) (defBody s_BadKey___init__) (defScope s_BadKey___init__) (d_BadKey___init__.dvs K) [] (d_BadKey___init__.at_ K) fd := W.says.fun_ (W.dfn 22 (d := d_BadKey___init__))
theorem Wd.f_TooMany___init__ : ∃ fd, FunD K d_TooMany___init__.name d_TooMany___init__.qual (defArgs s_TooMany___init__) (defBody s_TooMany___init__) (defScope s_TooMany___init__) (d_TooMany___init__.dvs K) [] (d_TooMany___init__.at_ K) fd := W.says.fun_ (W.dfn 23 (d := d_TooMany___init__))
end
theorem wd_of {K : PySem.W.Frag} {h : Heap} {mg : Str → Option Value} (X : K.In h) (G : h.Ns mainGlobals mg) (c : SaysH fa fn exB K) : Wd K mg := ⟨c, fun x r e => match r with
  | some _ => PySem.W.mg_of X G e
  | none => PySem.W.mg_none_of X G e⟩
theorem run (w : World) : HandSHeadRun.RunEq R qv hk ob 8000 loose w := by
  intro os
  kernel_rfl
end K46
end
section
set_option maxHeartbeats 4000000
/-! The layer of data: what a def computes, told over plain data, without a heap. -/
namespace Dl
open PySem PySem.Spec PyProof.Rows L2 Tx He
open Evl (Ex)
/-- plain data -/
inductive D where
  | non | bl (b : Bool) | int (i : Int) | str (z : Str)
  | tup (xs : List D) | lst (xs : List D) | dct (kvs : List (L2.Key × D))
  | ins (c : Str) (fs : List (Str × D)) | err (c : Str) (fs : List (Str × D))
  | cls (c : Str) | ty (n : String) | scr (xs : List D)
mutual
inductive Rep (K : PySem.W.Frag) (H : Hp) : V → D → Prop
  | non : Rep K H .non .non
  | bl (b : Bool) : Rep K H (.bl b) (.bl b)
  | int (i : Int) : Rep K H (.int i) (.int i)
  | str (z : Str) : Rep K H (.str z) (.str z)
  | tup {a : Addr} {vs : List V} {ds : List D} : H a = some (.tup vs) → Reps K H vs ds → Rep K H (.ref a) (.tup ds)
  | scr {a : Addr} {vs : List V} {ds : List D} : SqL K H a vs → Reps K H vs ds → Rep K H (.ref a) (.scr ds)
  | lst {a : Addr} {vs : List V} {ds : List D} : H a = some (.lst vs) → Reps K H vs ds → Rep K H (.ref a) (.lst ds)
  | dct {a : Addr} {vs : List (L2.Key × V)} {ds : List (L2.Key × D)} : H a = some (.dK vs) → RepK K H vs ds → Rep K H (.ref a) (.dct ds)
  | ins {a dx : Addr} {c : Str} {vs : List (Str × V)} {ds : List (Str × D)} : H a = some (.ins (ga K c) dx vs) → RepF K H vs ds → Rep K H (.ref a) (.ins c ds)
  | err {a : Addr} {c : Str} {vs : List (Str × V)} {ds : List (Str × D)} : Err H a (ga K c) vs → RepF K H vs ds → Rep K H (.ref a) (.err c ds)
  | cls (c : Str) : Rep K H (.ref (ga K c)) (.cls c)
  | ty (n : String) : Rep K H (.ty n) (.ty n)
inductive Reps (K : PySem.W.Frag) (H : Hp) : List V → List D → Prop
  | nil : Reps K H [] []
  | cons {v : V} {d : D} {vs : List V} {ds : List D} : Rep K H v d → Reps K H vs ds → Reps K H (v :: vs) (d :: ds)
inductive RepK (K : PySem.W.Frag) (H : Hp) : List (L2.Key × V) → List (L2.Key × D) → Prop
  | nil : RepK K H [] []
  | cons {k : L2.Key} {v : V} {d : D} {vs : List (L2.Key × V)} {ds : List (L2.Key × D)} : Rep K H v d → RepK K H vs ds → RepK K H ((k, v) :: vs) ((k, d) :: ds)
inductive RepF (K : PySem.W.Frag) (H : Hp) : List (Str × V) → List (Str × D) → Prop
  | nil : RepF K H [] []
  | cons {k : Str} {v : V} {d : D} {vs : List (Str × V)} {ds : List (Str × D)} : Rep K H v d → RepF K H vs ds → RepF K H ((k, v) :: vs) ((k, d) :: ds)
end
theorem Err.mono {H H' : Hp} {a C : Addr} {fs : List (Str × V)} (e : Ex H H') (h : Err H a C fs) : Err H' a C fs := by
  rcases h with ⟨h, z⟩ | ⟨d, h1, h2⟩ | ⟨d, h1, h2⟩
  · exact .inl ⟨e _ _ h, z⟩
  · exact .inr (.inl ⟨d, e _ _ h1, e _ _ h2⟩)
  · refine .inr (.inr ⟨d, e _ _ h1, ?_⟩)
    rcases h2 with h2 | ⟨x, h2, h3⟩
    · exact .inl h2
    · exact .inr ⟨x, h2, e _ _ h3⟩
section
variable {K : PySem.W.Frag} {H H' : Hp}
mutual
theorem Rep.mono (e : Ex H H') : ∀ {v : V} {d : D}, Rep K H v d → Rep K H' v d
  | _, _, .non => .non
  | _, _, .bl b => .bl b
  | _, _, .int i => .int i
  | _, _, .str z => .str z
  | _, _, .tup h r => .tup (e _ _ h) (Reps.mono e r)
  | _, _, .scr h r => .scr (Evl.ex_l e h) (Reps.mono e r)
  | _, _, .lst h r => .lst (e _ _ h) (Reps.mono e r)
  | _, _, .dct h r => .dct (e _ _ h) (RepK.mono e r)
  | _, _, .ins h r => .ins (e _ _ h) (RepF.mono e r)
  | _, _, .err h r => .err (Err.mono e h) (RepF.mono e r)
  | _, _, .cls c => .cls c
  | _, _, .ty n => .ty n
theorem Reps.mono (e : Ex H H') : ∀ {v : List V} {d : List D}, Reps K H v d → Reps K H' v d
  | _, _, .nil => .nil
  | _, _, .cons h r => .cons (Rep.mono e h) (Reps.mono e r)
theorem RepK.mono (e : Ex H H') : ∀ {v : List (L2.Key × V)} {d : List (L2.Key × D)}, RepK K H v d → RepK K H' v d
  | _, _, .nil => .nil
  | _, _, .cons h r => .cons (Rep.mono e h) (RepK.mono e r)
theorem RepF.mono (e : Ex H H') : ∀ {v : List (Str × V)} {d : List (Str × D)}, RepF K H v d → RepF K H' v d
  | _, _, .nil => .nil
  | _, _, .cons h r => .cons (Rep.mono e h) (RepF.mono e r)
end
theorem Reps.length : ∀ {vs : List V} {ds : List D}, Reps K H vs ds → vs.length = ds.length
  | _, _, .nil => rfl
  | _, _, .cons _ r => congrArg Nat.succ r.length
theorem Reps.append : ∀ {vs us : List V} {ds es : List D}, Reps K H vs ds → Reps K H us es → Reps K H (vs ++ us) (ds ++ es)
  | _, _, _, _, .nil, s => s
  | _, _, _, _, .cons h t, s => .cons h (t.append s)
theorem Reps.at : ∀ {vs : List V} {ds : List D} {j : Nat} {d : D}, Reps K H vs ds → ds[j]? = some d → ∃ x, vs[j]? = some x ∧ Rep K H x d
  | _, _, _, _, .nil, e => by simp at e
  | _, _, 0, _, .cons h _, e => by
    simp at e
    subst e
    exact ⟨_, rfl, h⟩
  | _, _, j + 1, x, .cons _ t, e => by
    obtain ⟨d, e1, e2⟩ := Reps.at (j := j) (d := x) t (by simpa using e)
    exact ⟨d, by simpa using e1, e2⟩
theorem Reps.set {x : V} {d : D} (r : Rep K H x d) : ∀ {vs : List V} {ds : List D} (i : Nat), Reps K H vs ds → Reps K H (vs.set i x) (ds.set i d)
  | _, _, _, .nil => .nil
  | _, _, 0, .cons _ t => .cons r t
  | _, _, i + 1, .cons q t => .cons q (Reps.set r i t)
theorem Reps.take : ∀ {vs : List V} {ds : List D} (n : Nat), Reps K H vs ds → Reps K H (vs.take n) (ds.take n)
  | _, _, 0, _ => .nil
  | _, _, _ + 1, .nil => .nil
  | _, _, n + 1, .cons r t => .cons r (Reps.take n t)
theorem Reps.drop : ∀ {vs : List V} {ds : List D} (n : Nat), Reps K H vs ds → Reps K H (vs.drop n) (ds.drop n)
  | _, _, 0, r => r
  | _, _, _ + 1, .nil => .nil
  | _, _, n + 1, .cons _ t => Reps.drop n t
theorem RepF.get : ∀ {vs : List (Str × V)} {ds : List (Str × D)} {f : Str} {d : D}, RepF K H vs ds → ds.lookup f = some d → ∃ x, vs.lookup f = some x ∧ Rep K H x d
  | _, _, _, _, .nil, e => by cases e
  | (k, v) :: vs, (_, d0) :: ds, f, d, .cons h t, e => by
    rw [List.lookup_cons] at e ⊢
    cases hk : f == k with
    | true =>
      simp only [hk] at e ⊢
      cases e
      exact ⟨v, rfl, h⟩
    | false =>
      simp only [hk] at e ⊢
      exact RepF.get t e
theorem RepF.none : ∀ {vs : List (Str × V)} {ds : List (Str × D)} {f : Str}, RepF K H vs ds → ds.lookup f = none → vs.lookup f = none
  | _, _, _, .nil, e => rfl
  | (k, v) :: vs, (_, d0) :: ds, f, .cons h t, e => by
    rw [List.lookup_cons] at e ⊢
    cases hk : f == k with
    | true => simp only [hk] at e; cases e
    | false =>
      simp only [hk] at e ⊢
      exact RepF.none t e
theorem RepF.length : ∀ {vs : List (Str × V)} {ds : List (Str × D)}, RepF K H vs ds → vs.length = ds.length
  | _, _, .nil => rfl
  | _, _, .cons _ r => congrArg Nat.succ r.length
theorem RepF.append : ∀ {vs us : List (Str × V)} {ds es : List (Str × D)}, RepF K H vs ds → RepF K H us es → RepF K H (vs ++ us) (ds ++ es)
  | _, _, _, _, .nil, s => s
  | _, _, _, _, .cons h t, s => .cons h (t.append s)
theorem Reps.ints : ∀ {ns : List Int}, Reps K H (ns.map V.int) (ns.map D.int)
  | [] => .nil
  | n :: ns => .cons (.int n) Reps.ints
end
/-- no table of code objects -/
def NT (o : HO) : Prop := ∀ ps, o ≠ .tbl ps
/-- nothing there, but for a table -/
def Fre (H : Hp) (p : Addr) : Prop := ∀ o, H p = some o → ¬ NT o
theorem Fre.of {H : Hp} {p : Addr} (h : H p = none) : Fre H p := fun o e => by rw [h] at e; cases e
/-- the heap without what is hidden, and without tables -/
def hid (H : Hp) (M : List Addr) : Hp := fun a => if a ∈ M then none else match H a with
  | some (.tbl _) => none
  | o => o
section
variable {H H' : Hp} {M M' : List Addr} {a p : Addr} {o : HO}
theorem hid_at (h : a ∉ M) (e : H a = some o) (n : NT o) : hid H M a = some o := by
  unfold hid
  rw [if_neg h, e]
  cases o <;> first | rfl | exact absurd rfl (n _)
theorem hid_in (h : a ∈ M) : hid H M a = none := if_pos h
theorem hid_eq (h : a ∉ M) (h' : a ∉ M') (e : H a = H' a) : hid H M a = hid H' M' a := by
  unfold hid
  rw [if_neg h, if_neg h', e]
theorem hid_ofT (h : hid H M a = some o) : a ∉ M ∧ H a = some o ∧ NT o := by
  by_cases e : a ∈ M
  · rw [hid_in e] at h; cases h
  · unfold hid at h
    rw [if_neg e] at h
    split at h
    · cases h
    · rename_i n
      exact ⟨e, h, fun ps z => n ps (by rw [h, z])⟩
theorem hid_of (h : hid H M a = some o) : a ∉ M ∧ H a = some o := ⟨(hid_ofT h).1, (hid_ofT h).2.1⟩
theorem hid_ex : Ex (hid H M) H := fun _ _ h => (hid_of h).2
theorem hid_sub (s : ∀ a, a ∈ M' → a ∈ M) : Ex (hid H M) (hid H M') := fun a o h => by
  obtain ⟨n, e, t⟩ := hid_ofT h
  exact hid_at (fun z => n (s a z)) e t
theorem hid_mono (h : Ex H H') : Ex (hid H M) (hid H' M) := fun a o e => by
  obtain ⟨n, e, t⟩ := hid_ofT e
  exact hid_at n (h _ _ e) t
theorem hid_kept (h : ∀ a o, a ∉ M → H a = some o → NT o → H' a = some o) : Ex (hid H M) (hid H' M) := fun a o e => by
  obtain ⟨n, e, t⟩ := hid_ofT e
  exact hid_at n (h _ _ n e t) t
end
/-- a slot: data; a thing that this def alone holds; a thing that the caller handed over to be changed -/
inductive Sl where
  | dat (d : D) | own (d : D) | par (d : D)
def Sl.d : Sl → D
  | .dat d => d | .own d => d | .par d => d
abbrev Gm := List (Option Sl)
/-- a thing that is held alone: its content -/
def OwnAt (K : PySem.W.Frag) (Hh H : Hp) (p : Addr) : D → Prop
  | .lst ds => ∃ vs, H p = some (.lst vs) ∧ Reps K Hh vs ds
  | .dct ds => ∃ vs, H p = some (.dK vs) ∧ RepK K Hh vs ds
  | .ins c ds => ∃ dx vs, H p = some (.ins (ga K c) dx vs) ∧ RepF K Hh vs ds
  | _ => False
theorem OwnAt.mono {K : PySem.W.Frag} {Hh Hh' H H' : Hp} {p : Addr} (e : Ex Hh Hh') (e2 : ∀ o, H p = some o → H' p = some o) : ∀ {d : D}, OwnAt K Hh H p d → OwnAt K Hh' H' p d
  | .lst _, ⟨vs, h, r⟩ => ⟨vs, e2 _ h, r.mono e⟩
  | .dct _, ⟨vs, h, r⟩ => ⟨vs, e2 _ h, r.mono e⟩
  | .ins _ _, ⟨dx, vs, h, r⟩ => ⟨dx, vs, e2 _ h, r.mono e⟩
theorem OwnAt.there {K : PySem.W.Frag} {Hh H : Hp} {p : Addr} : ∀ {d : D}, OwnAt K Hh H p d → ∃ o, H p = some o
  | .lst _, ⟨vs, h, r⟩ => ⟨_, h⟩
  | .dct _, ⟨vs, h, r⟩ => ⟨_, h⟩
  | .ins _ _, ⟨dx, vs, h, r⟩ => ⟨_, h⟩
theorem OwnAt.rep {K : PySem.W.Frag} {Hh H : Hp} {p : Addr} (e : Ex Hh H) : ∀ {d : D}, OwnAt K Hh H p d → Rep K H (.ref p) d
  | .lst _, ⟨vs, h, r⟩ => .lst h (r.mono e)
  | .dct _, ⟨vs, h, r⟩ => .dct h (r.mono e)
  | .ins _ _, ⟨dx, vs, h, r⟩ => .ins h (r.mono e)
theorem OwnAt.no_tab {K : PySem.W.Frag} {Hh H : Hp} {p : Addr} : ∀ {d : D}, OwnAt K Hh H p d → ∃ o, H p = some o ∧ (∀ ps, o ≠ .tbl ps) ∧ ∀ φ, o ≠ .ext φ
  | .lst _, ⟨vs, h, r⟩ => ⟨_, h, (fun _ z => by cases z), (fun _ z => by cases z)⟩
  | .dct _, ⟨vs, h, r⟩ => ⟨_, h, (fun _ z => by cases z), (fun _ z => by cases z)⟩
  | .ins _ _, ⟨dx, vs, h, r⟩ => ⟨_, h, (fun _ z => by cases z), (fun _ z => by cases z)⟩
/-- the tables of code objects of the defs that make lambdas; they may grow at any time and are hidden from all -/
class Tabl where
  T : List (Addr × Str)
variable [Tabl]
abbrev TabsH (H : Hp) : Prop := LamX.Tabs Tabl.T H
theorem tabs_by {H H' : Hp} (t : TabsH H) (e : ∀ b o, H b = some o → ((∃ ps, o = .tbl ps) ∨ ∃ φ, o = .ext φ) → H' b = some o) : TabsH H' := fun p hp => by
  obtain ⟨ps, h1, h2, h3⟩ := t p hp
  exact ⟨ps, e _ _ h1 (.inl ⟨ps, rfl⟩), h2, fun pos cv hc => by
    obtain ⟨c, h4, h5⟩ := h3 pos cv hc
    exact ⟨c, h4, e _ _ h5 (.inr ⟨_, rfl⟩)⟩⟩
/-- all but the tables stay -/
structure ExT (H H' : Hp) : Prop where
  ex : ∀ a o, H a = some o → NT o → H' a = some o
  tab : TabsH H → TabsH H'
theorem ExT.of {H H' : Hp} (e : Ex H H') : ExT H H' := ⟨fun a o h _ => e a o h, fun t => t.ext e⟩
theorem ExT.refl (H : Hp) : ExT H H := .of (Evl.Ex.refl H)
theorem OwnAt.nt {K : PySem.W.Frag} {Hh H : Hp} {p : Addr} {d : D} {o : HO} (h : OwnAt K Hh H p d) (z : H p = some o) : NT o := by
  obtain ⟨u, o1, o2, _⟩ := h.no_tab
  rw [z] at o1
  cases o1
  exact o2
/-- what the frame is laid over: what the caller hides, the things handed over, the heap at the call -/
structure Bs where
  M0 : List Addr
  pa : Nat → Option Addr
  H0 : Hp
structure Bs.Ok (B : Bs) : Prop where
  inj : ∀ i j p, B.pa i = some p → B.pa j = some p → i = j
  pin : ∀ i p, B.pa i = some p → p ∈ B.M0
  dom : ∀ p ∈ B.M0, ∃ o, B.H0 p = some o ∧ NT o
structure SR (K : PySem.W.Frag) (B : Bs) (M : List Addr) (Γ : Gm) (σ : L2.St) (H : Hp) : Prop where
  dat : ∀ (i : Nat) (d : D), Γ[i]? = some (some (.dat d)) → ∃ v, σ[i]? = some (some v) ∧ Rep K (hid H M) v d
  own : ∀ (i : Nat) (d : D), Γ[i]? = some (some (.own d)) → ∃ p, σ[i]? = some (some (.ref p)) ∧ p ∈ M ∧ Fre B.H0 p ∧ OwnAt K (hid H M) H p d ∧ ∀ (j : Nat) (e : D), Γ[j]? = some (some (.own e)) → σ[j]? = some (some (.ref p)) → j = i
  par : ∀ (i : Nat) (d : D), Γ[i]? = some (some (.par d)) → ∃ p, σ[i]? = some (some (.ref p)) ∧ B.pa i = some p ∧ OwnAt K (hid H M) H p d
  sub : ∀ a ∈ B.M0, a ∈ M
  dom : ∀ a ∈ M, ∃ o, H a = some o ∧ NT o
  frm : ∀ a o, B.H0 a = some o → NT o → (∀ i, B.pa i ≠ some a) → H a = some o
  len : Γ.length = σ.length
  bok : B.Ok
  tab : TabsH H
section
variable {K : PySem.W.Frag} {B : Bs} {M M' : List Addr} {Γ : Gm} {σ : L2.St} {H H' : Hp} {p : Addr} {o : HO}
theorem SR.fresh (S : SR K B M Γ σ H) (h : Fre H p) : Fre B.H0 p := fun u e t => by
  by_cases hp : ∃ i, B.pa i = some p
  · obtain ⟨i, hi⟩ := hp
    obtain ⟨o, q, w⟩ := S.dom p (S.sub p (S.bok.pin i p hi))
    exact h o q w
  · exact h u (S.frm p u e t fun i z => hp ⟨i, z⟩) t
theorem SR.not_in (S : SR K B M Γ σ H) (h : Fre H p) : p ∉ M := fun z => by
  obtain ⟨o, q, w⟩ := S.dom p z
  exact h o q w
theorem hid_monoT (h : ExT H H') : Ex (hid H M) (hid H' M) := hid_kept fun a o n e t => h.ex a o e t
/-- all but the tables stay -/
theorem SR.extT (S : SR K B M Γ σ H) (e : ExT H H') : SR K B M Γ σ H' where
  dat := fun i d h => let ⟨v, h1, h2⟩ := S.dat i d h; ⟨v, h1, h2.mono (hid_monoT e)⟩
  own := fun i d h => let ⟨p, h1, h2, h3, h4, h5⟩ := S.own i d h; ⟨p, h1, h2, h3, h4.mono (hid_monoT e) (fun o z => e.ex p o z (h4.nt z)), h5⟩
  par := fun i d h => let ⟨p, h1, h2, h3⟩ := S.par i d h; ⟨p, h1, h2, h3.mono (hid_monoT e) (fun o z => e.ex p o z (h3.nt z))⟩
  sub := S.sub
  dom := fun a h => by
    obtain ⟨o, q, t⟩ := S.dom a h
    exact ⟨o, e.ex _ _ q t, t⟩
  frm := fun a o h t n => e.ex _ _ (S.frm a o h t n) t
  len := S.len
  bok := S.bok
  tab := e.tab S.tab
theorem hide_k (h : Fre H p) (e : ExT H H') : Ex (hid H M) (hid H' (p :: M)) := fun a u z => by
  obtain ⟨n, z, t⟩ := hid_ofT z
  refine hid_at (fun q => ?_) (e.ex _ _ z t) t
  rcases List.mem_cons.mp q with q | q
  · subst q; exact h u z t
  · exact n q
theorem SR.hideT (S : SR K B M Γ σ H) (h : Fre H p) (e : ExT H H') (ho : H' p = some o) (ht : NT o) : SR K B (p :: M) Γ σ H' := by
  have k : Ex (hid H M) (hid H' (p :: M)) := hide_k h e
  have S' := S.extT e
  exact {
    dat := fun i d h => let ⟨v, h1, h2⟩ := S.dat i d h; ⟨v, h1, h2.mono k⟩
    own := fun i d h => let ⟨p, h1, h2, h3, h4, h5⟩ := S.own i d h; ⟨p, h1, List.mem_cons_of_mem _ h2, h3, h4.mono k (fun o z => e.ex p o z (h4.nt z)), h5⟩
    par := fun i d h => let ⟨p, h1, h2, h3⟩ := S.par i d h; ⟨p, h1, h2, h3.mono k (fun o z => e.ex p o z (h3.nt z))⟩
    sub := fun a h => List.mem_cons_of_mem _ (S.sub a h)
    dom := fun a h => by
      rcases List.mem_cons.mp h with q | q
      · subst q; exact ⟨_, ho, ht⟩
      · exact S'.dom a q
    frm := S'.frm
    len := S.len
    bok := S.bok
    tab := S'.tab }
/-- what an operation may know of the hidden things -/
structure Dm (M : List Addr) (H : Hp) : Prop where
  dom : ∀ a ∈ M, ∃ o, H a = some o ∧ NT o
  tab : TabsH H
theorem SR.dm (S : SR K B M Γ σ H) : Dm M H := ⟨S.dom, S.tab⟩
/-- only new things -/
theorem SR.ext (S : SR K B M Γ σ H) (e : Ex H H') : SR K B M Γ σ H' := S.extT (.of e)
/-- a new thing, not yet held -/
theorem SR.hide (S : SR K B M Γ σ H) (h : H p = none) (e : Ex H H') (ho : H' p = some o) (ht : NT o) : SR K B (p :: M) Γ σ H' := S.hideT (.of h) (.of e) ho ht
/-- what an own thing becomes when it is data -/
theorem SR.thaw (S : SR K B M Γ σ H) {i : Nat} {d : D} (h : Γ[i]? = some (some (.own d))) : ∃ M' p, σ[i]? = some (some (.ref p)) ∧ SR K B M' (Γ.set i (some (.dat d))) σ H ∧ Ex (hid H M) (hid H M') ∧ Rep K (hid H M') (.ref p) d := by
  obtain ⟨p, h1, h2, h3, h4, h5⟩ := S.own i d h
  have hi : i < Γ.length := (List.getElem?_eq_some_iff.mp h).1
  have sb : ∀ a, a ∈ M.filter (· ≠ p) → a ∈ M := fun a z => (List.mem_filter.mp z).1
  have ex : Ex (hid H M) (hid H (M.filter (· ≠ p))) := hid_sub sb
  have pn : p ∉ M.filter (· ≠ p) := fun z => by simpa using (List.mem_filter.mp z).2
  have rp : Rep K (hid H (M.filter (· ≠ p))) (.ref p) d := by
    have q : OwnAt K (hid H (M.filter (· ≠ p))) (hid H (M.filter (· ≠ p))) p d := h4.mono ex fun o e => hid_at pn e (h4.nt e)
    exact q.rep (Evl.Ex.refl _)
  refine ⟨M.filter (· ≠ p), p, h1, ?_, ex, rp⟩
  exact {
    dat := fun j e hj => by
      by_cases hij : i = j
      · subst hij
        rw [List.getElem?_set_self hi] at hj
        cases hj
        exact ⟨_, h1, rp⟩
      · rw [List.getElem?_set_ne hij] at hj
        obtain ⟨v, q1, q2⟩ := S.dat j e hj
        exact ⟨v, q1, q2.mono ex⟩
    own := fun j e hj => by
      by_cases hij : i = j
      · subst hij
        rw [List.getElem?_set_self hi] at hj
        cases hj
      · rw [List.getElem?_set_ne hij] at hj
        obtain ⟨q, q1, q2, q3, q4, q5⟩ := S.own j e hj
        have ne : q ≠ p := fun z => hij (h5 j e hj (by rw [← z]; exact q1)).symm
        refine ⟨q, q1, List.mem_filter.mpr ⟨q2, by simpa using ne⟩, q3, q4.mono ex (fun o z => z), fun j' e' hj' => ?_⟩
        by_cases hij' : i = j'
        · subst hij'
          rw [List.getElem?_set_self hi] at hj'
          cases hj'
        · rw [List.getElem?_set_ne hij'] at hj'
          exact q5 j' e' hj'
    par := fun j e hj => by
      by_cases hij : i = j
      · subst hij
        rw [List.getElem?_set_self hi] at hj
        cases hj
      · rw [List.getElem?_set_ne hij] at hj
        obtain ⟨q, q1, q2, q3⟩ := S.par j e hj
        exact ⟨q, q1, q2, q3.mono ex fun o z => z⟩
    sub := fun a z => List.mem_filter.mpr ⟨S.sub a z, by
      have : a ≠ p := fun w => by
        obtain ⟨o, q, t⟩ := S.bok.dom a z
        rw [w] at q
        exact h3 o q t
      simpa using this⟩
    dom := fun a z => S.dom a (sb a z)
    frm := S.frm
    len := by rw [List.length_set]; exact S.len
    bok := S.bok
    tab := S.tab }
/-- a name is given data -/
theorem SR.setDat (S : SR K B M Γ σ H) {v : V} {d : D} (i : Nat) (r : Rep K (hid H M) v d) : SR K B M (Γ.set i (some (.dat d))) (σ.set i (some v)) H where
  dat := fun j e hj => by
    by_cases hij : i = j
    · subst hij
      have hi : i < Γ.length := by
        have := (List.getElem?_eq_some_iff.mp hj).1
        simpa using this
      rw [List.getElem?_set_self hi] at hj
      cases hj
      exact ⟨v, List.getElem?_set_self (by rw [← S.len]; exact hi), r⟩
    · rw [List.getElem?_set_ne hij] at hj
      rw [List.getElem?_set_ne hij]
      exact S.dat j e hj
  own := fun j e hj => by
    by_cases hij : i = j
    · subst hij
      have hi : i < Γ.length := by
        have := (List.getElem?_eq_some_iff.mp hj).1
        simpa using this
      rw [List.getElem?_set_self hi] at hj
      cases hj
    · rw [List.getElem?_set_ne hij] at hj
      rw [List.getElem?_set_ne hij]
      obtain ⟨q, q1, q2, q3, q4, q5⟩ := S.own j e hj
      refine ⟨q, q1, q2, q3, q4, fun j' e' hj' hs => ?_⟩
      by_cases hij' : i = j'
      · subst hij'
        have hi : i < Γ.length := by
          have := (List.getElem?_eq_some_iff.mp hj').1
          simpa using this
        rw [List.getElem?_set_self hi] at hj'
        cases hj'
      · rw [List.getElem?_set_ne hij'] at hj' hs
        exact q5 j' e' hj' hs
  par := fun j e hj => by
    by_cases hij : i = j
    · subst hij
      have hi : i < Γ.length := by
        have := (List.getElem?_eq_some_iff.mp hj).1
        simpa using this
      rw [List.getElem?_set_self hi] at hj
      cases hj
    · rw [List.getElem?_set_ne hij] at hj
      rw [List.getElem?_set_ne hij]
      exact S.par j e hj
  sub := S.sub
  dom := S.dom
  frm := S.frm
  len := by rw [List.length_set, List.length_set]; exact S.len
  bok := S.bok
  tab := S.tab
/-- a name is given a thing of its own -/
theorem SR.setOwn (S : SR K B (p :: M) Γ σ H) {d : D} (i : Nat) (hp : p ∉ M) (ho : ∀ (j : Nat) (e : D), Γ[j]? = some (some (.own e)) → σ[j]? ≠ some (some (.ref p))) (h0 : Fre B.H0 p) (r : OwnAt K (hid H (p :: M)) H p d) : SR K B (p :: M) (Γ.set i (some (.own d))) (σ.set i (some (.ref p))) H where
  dat := fun j e hj => by
    by_cases hij : i = j
    · subst hij
      have hi : i < Γ.length := by
        have := (List.getElem?_eq_some_iff.mp hj).1
        simpa using this
      rw [List.getElem?_set_self hi] at hj
      cases hj
    · rw [List.getElem?_set_ne hij] at hj
      rw [List.getElem?_set_ne hij]
      exact S.dat j e hj
  own := fun j e hj => by
    by_cases hij : i = j
    · subst hij
      have hi : i < Γ.length := by
        have := (List.getElem?_eq_some_iff.mp hj).1
        simpa using this
      rw [List.getElem?_set_self hi] at hj
      cases hj
      refine ⟨p, List.getElem?_set_self (by rw [← S.len]; exact hi), List.mem_cons_self .., h0, r, fun j' e' hj' hs => ?_⟩
      by_cases hij' : i = j'
      · exact hij'.symm
      · rw [List.getElem?_set_ne hij'] at hj' hs
        exact absurd hs (ho j' e' hj')
    · rw [List.getElem?_set_ne hij] at hj
      rw [List.getElem?_set_ne hij]
      obtain ⟨q, q1, q2, q3, q4, q5⟩ := S.own j e hj
      refine ⟨q, q1, q2, q3, q4, fun j' e' hj' hs => ?_⟩
      by_cases hij' : i = j'
      · subst hij'
        have hi : i < Γ.length := by
          have := (List.getElem?_eq_some_iff.mp hj').1
          simpa using this
        rw [List.getElem?_set_self (by rw [← S.len]; exact hi)] at hs
        cases hs
        exact absurd q1 (ho j e hj)
      · rw [List.getElem?_set_ne hij'] at hj' hs
        exact q5 j' e' hj' hs
  par := fun j e hj => by
    by_cases hij : i = j
    · subst hij
      have hi : i < Γ.length := by
        have := (List.getElem?_eq_some_iff.mp hj).1
        simpa using this
      rw [List.getElem?_set_self hi] at hj
      cases hj
    · rw [List.getElem?_set_ne hij] at hj
      rw [List.getElem?_set_ne hij]
      exact S.par j e hj
  sub := S.sub
  dom := S.dom
  frm := S.frm
  len := by rw [List.length_set, List.length_set]; exact S.len
  bok := S.bok
  tab := S.tab
end
end Dl
end
section
set_option maxHeartbeats 4000000
/-! Readings over data: expressions, tests, arguments. -/
namespace Dl
variable [Tabl]
open PySem PySem.Spec PyProof.Rows L2 Tx He
open Evl (Ex)
/-- how a piece of code ends, told over data -/
inductive Rs (α : Type) where
  | ok (a : α) (g : Gm) | exc (c : Str) (fs : List (Str × D)) (g : Gm) | no
abbrev EM (α : Type) := Gm → Rs α
def EM.bind {α β : Type} (m : EM α) (k : α → EM β) : EM β := fun Γ => match m Γ with
  | .ok a Γ1 => k a Γ1
  | .exc c fs g => .exc c fs g
  | .no => .no
def EM.ret {α : Type} (a : α) : EM α := fun Γ => .ok a Γ
def EM.opt {α : Type} (a : Option α) : EM α := fun Γ => match a with
  | some a => .ok a Γ
  | none => .no
/-- an error's own dict -/
def ExcAt (K : PySem.W.Frag) (H : Hp) (d : Option Addr) (fs : List (Str × D)) : Prop := (d = none ∧ fs = []) ∨ ∃ x vs, d = some x ∧ H x = some (.xd vs) ∧ RepF K H vs fs
/-- a value that has come -/
def Val (K : PySem.W.Frag) (B : Bs) (M : List Addr) (Γ' : Gm) (σ : L2.St) (H : Hp) (M' : List Addr) (H' : Hp) (v : V) : Sl → Prop
  | .dat d => SR K B M' Γ' σ H' ∧ Ex (hid H M) (hid H' M') ∧ Rep K (hid H' M') v d
  | .own d => ∃ p, v = .ref p ∧ p ∉ M' ∧ Fre B.H0 p ∧ SR K B M' Γ' σ H' ∧ SR K B (p :: M') Γ' σ H' ∧ Ex (hid H M) (hid H' (p :: M')) ∧ OwnAt K (hid H' (p :: M')) H' p d
  | .par _ => False
def Fail (K : PySem.W.Frag) (W : WX) (B : Bs) (σ : L2.St) (c : Str) (fs : List (Str × D)) (Γ' : Gm) : Prop := ∀ d H' M', SR K B M' Γ' σ H' → ExcAt K (hid H' M') d fs → W (.ref (ga K c)) d σ H'
def tD (K : PySem.W.Frag) (W : WX) (f : EM Sl) : TE := fun σ H Q => ∃ B M Γ, SR K B M Γ σ H ∧ match f Γ with
  | .ok r Γ' => ∀ v H' M', Val K B M Γ' σ H M' H' v r → Q v H'
  | .exc c fs Γ' => Fail K W B σ c fs Γ'
  | .no => False
def tDT (K : PySem.W.Frag) (W : WX) (f : EM Bool) : TT := fun σ H Q => ∃ B M Γ, SR K B M Γ σ H ∧ match f Γ with
  | .ok b Γ' => ∀ H' M', SR K B M' Γ' σ H' → Ex (hid H M) (hid H' M') → Q b H'
  | .exc c fs Γ' => Fail K W B σ c fs Γ'
  | .no => False
section
variable {K : PySem.W.Frag} {W : WX} {B : Bs} {M M' : List Addr} {Γ Γ' : Gm} {σ : L2.St} {H H' : Hp} {v : V} {r : Sl}
theorem sub_cons {p : Addr} : ∀ a, a ∈ M → a ∈ p :: M := fun a h => List.mem_cons_of_mem _ h
theorem Val.dat (h : Val K B M Γ' σ H M' H' v r) : SR K B M' Γ' σ H' ∧ Ex (hid H M) (hid H' M') ∧ Rep K (hid H' M') v r.d := by
  cases r with
  | dat d => exact h
  | par d => exact h.elim
  | own d =>
    obtain ⟨p, rfl, hp, _, s1, s2, e, o⟩ := h
    refine ⟨s1, e.trans (hid_sub sub_cons), ?_⟩
    have q : OwnAt K (hid H' M') (hid H' M') p d := o.mono (hid_sub sub_cons) fun u z => hid_at hp z (o.nt z)
    exact q.rep (Evl.Ex.refl _)
/-- a reading is used -/
theorem tD_use {f : EM Sl} {P : VK} (S : SR K B M Γ σ H) (h : match f Γ with
  | .ok r Γ1 => ∀ v H1 M1, SR K B M1 Γ1 σ H1 → Ex (hid H M) (hid H1 M1) → Rep K (hid H1 M1) v r.d → P v H1
  | .exc c fs Γ1 => Fail K W B σ c fs Γ1
  | .no => False) : tD K W f σ H P := by
  refine ⟨B, M, Γ, S, ?_⟩
  cases hf : f Γ with
  | ok r Γ1 =>
    rw [hf] at h
    exact fun v H1 M1 q => h v H1 M1 q.dat.1 q.dat.2.1 q.dat.2.2
  | exc c fs g => rw [hf] at h; exact h
  | no => rw [hf] at h; exact h
end
/-- new things alone are made on the way to the value -/
def New (K : PySem.W.Frag) (M : List Addr) (H H' : Hp) (v : V) : Sl → Prop
  | .dat d => ExT H H' ∧ Rep K (hid H' M) v d
  | .own d => ∃ p, v = .ref p ∧ Fre H p ∧ ExT H H' ∧ OwnAt K (hid H' (p :: M)) H' p d
  | .par _ => False
section
variable {K : PySem.W.Frag} {W : WX} {B : Bs} {M M' M1 : List Addr} {Γ Γ' : Gm} {σ : L2.St} {H H' H1 : Hp} {v : V} {r : Sl}
theorem New.val (S : SR K B M1 Γ σ H1) (e : Ex (hid H M) (hid H1 M1)) (h : New K M1 H1 H' v r) : Val K B M Γ σ H M1 H' v r := by
  cases r with
  | dat d => exact ⟨S.extT h.1, e.trans (hid_monoT h.1), h.2⟩
  | par d => exact h.elim
  | own d =>
    obtain ⟨p, rfl, hp, ex, o⟩ := h
    obtain ⟨u, hu⟩ := o.there
    have s2 := S.hideT hp ex hu (o.nt hu)
    exact ⟨p, rfl, S.not_in hp, S.fresh hp, S.extT ex, s2, e.trans (hide_k hp ex), o⟩
end
/-! ### operations on values -/
def rOp (K : PySem.W.Frag) (g : D → D → Option Sl) : R2 := fun x y H Q => ∃ M d e r, Dm M H ∧ Rep K (hid H M) x d ∧ Rep K (hid H M) y e ∧ g d e = some r ∧ ∀ v H', New K M H H' v r → Q v H'
def rUn (K : PySem.W.Frag) (g : D → Option Sl) : V → Hp → VK → Prop := fun x H Q => ∃ M d r, Dm M H ∧ Rep K (hid H M) x d ∧ g d = some r ∧ ∀ v H', New K M H H' v r → Q v H'
def rCl (K : PySem.W.Frag) (g : List D → Option Sl) : List V → Hp → VK → Prop := fun xs H Q => ∃ M ds r, Dm M H ∧ Reps K (hid H M) xs ds ∧ g ds = some r ∧ ∀ v H', New K M H H' v r → Q v H'
def rMt (K : PySem.W.Frag) (g : D → List D → Option Sl) : V → List V → Hp → VK → Prop := fun x xs H Q => ∃ M d ds r, Dm M H ∧ Rep K (hid H M) x d ∧ Reps K (hid H M) xs ds ∧ g d ds = some r ∧ ∀ v H', New K M H H' v r → Q v H'
abbrev OpD (X : Cx) (f : Value → Value → Sem Value) (g : D → D → Option Sl) : Prop := OpR X f (rOp X.K g)
abbrev UnD (X : Cx) (f : Value → Sem Value) (g : D → Option Sl) : Prop := UnR X f (rUn X.K g)
abbrev ClD (X : Cx) (f : Value) (g : List D → Option Sl) : Prop := CallR X f (rCl X.K g)
def dOp (g : D → D → Option Sl) (fa fb : EM Sl) : EM Sl := fa.bind fun x => fb.bind fun y => EM.opt (g x.d y.d)
def dUn (g : D → Option Sl) (fa : EM Sl) : EM Sl := fa.bind fun x => EM.opt (g x.d)
def dVar (i : Nat) : EM Sl := fun Γ => match Γ[i]? with
  | some (some (.dat d)) => .ok (.dat d) Γ
  | some (some (.own d)) => .ok (.dat d) (Γ.set i (some (.dat d)))
  | _ => .no
def dC (d : D) : EM Sl := EM.ret (.dat d)
theorem PE.imp {X : Cx} {e : Expr} {t t' : TE} (h : PE X e t) (k : ∀ σ H Q, t' σ H Q → t σ H Q) : PE X e t' := ⟨fun pins s σ H Q I q => h.run pins s σ H Q I (k σ H Q q)⟩
theorem PT.imp {X : Cx} {e : Expr} {t t' : TT} (h : PT X e t) (k : ∀ σ H Q, t' σ H Q → t σ H Q) : PT X e t' := ⟨fun pins s σ H Q I q => h.run pins s σ H Q I (k σ H Q q)⟩
theorem PW.imp {X : Cx} {e : Expr} {t t' : TT} (h : PW X e t) (k : ∀ σ H Q, t' σ H Q → t σ H Q) : PW X e t' := ⟨fun w pins s σ H Q I q => h.run w pins s σ H Q I (k σ H Q q)⟩
theorem PA.imp {X : Cx} {e : List Expr} {t t' : TA} (h : PA X e t) (k : ∀ σ H Q, t' σ H Q → t σ H Q) : PA X e t' := ⟨fun w pins s σ H Q I q => h.run w pins s σ H Q I (k σ H Q q)⟩
section
variable {X : Cx} {W : WX} {a b c : Expr} {fa fb fc : EM Sl} {pos : Pos}
theorem q_bin {K : PySem.W.Frag} {g : D → D → Option Sl} {σ : L2.St} {H : Hp} {Q : VK} (h : tD K W (dOp g fa fb) σ H Q) : tOp (rOp K g) (tD K W fa) (tD K W fb) σ H Q := by
  obtain ⟨B, M, Γ, S, h⟩ := h
  refine tD_use S ?_
  unfold dOp EM.bind at h
  cases ha : fa Γ with
  | no => rw [ha] at h; exact h
  | exc c fs g => rw [ha] at h; exact h
  | ok x Γ1 =>
    rw [ha] at h
    intro v H1 M1 S1 e1 r1
    refine tD_use S1 ?_
    simp only at h
    cases hb : fb Γ1 with
    | no => rw [hb] at h; exact h
    | exc c fs g => rw [hb] at h; exact h
    | ok y Γ2 =>
      rw [hb] at h
      intro u H2 M2 S2 e2 r2
      simp only at h
      unfold EM.opt at h
      cases hg : g x.d y.d with
      | none => rw [hg] at h; exact h.elim
      | some r =>
        rw [hg] at h
        exact ⟨M2, x.d, y.d, r, S2.dm, r1.mono e2, r2, hg, fun v H' n => h v H' M2 (n.val S2 (e1.trans e2))⟩
theorem q_un {K : PySem.W.Frag} {g : D → Option Sl} {σ : L2.St} {H : Hp} {Q : VK} (h : tD K W (dUn g fa) σ H Q) : tUn (rUn K g) (tD K W fa) σ H Q := by
  obtain ⟨B, M, Γ, S, h⟩ := h
  refine tD_use S ?_
  unfold dUn EM.bind at h
  cases ha : fa Γ with
  | no => rw [ha] at h; exact h
  | exc c fs g => rw [ha] at h; exact h
  | ok x Γ1 =>
    rw [ha] at h
    intro v H1 M1 S1 e1 r1
    simp only at h
    unfold EM.opt at h
    cases hg : g x.d with
    | none => rw [hg] at h; exact h.elim
    | some r =>
      rw [hg] at h
      exact ⟨M1, x.d, r, S1.dm, r1, hg, fun v H' n => h v H' M1 (n.val S1 e1)⟩
theorem de_op {op : Operator} {g : D → D → Option Sl} (ho : OpD X (binaryOp op) g) (ha : PE X a (tD X.K W fa)) (hb : PE X b (tD X.K W fb)) : PE X (.BinOp a op b pos) (tD X.K W (dOp g fa fb)) := PE.imp (pe_op ho ha hb) fun _ _ _ h => q_bin h
theorem de_cmp {op : CmpOp} {g : D → D → Option Sl} (ho : OpD X (compareOp op) g) (ha : PE X a (tD X.K W fa)) (hb : PE X b (tD X.K W fb)) (hm : behindInMarks op b = false) : PE X (.Compare a [op] [b] pos) (tD X.K W (dOp g fa fb)) := PE.imp (pe_cmpR ho ha hb hm) fun _ _ _ h => q_bin h
theorem de_un {op : UnaryOp} {g : D → Option Sl} (ho : UnD X (unaryOp op) g) (ha : PE X a (tD X.K W fa)) : PE X (.UnaryOp op a pos) (tD X.K W (dUn g fa)) := PE.imp (pe_un ho ha) fun _ _ _ h => q_un h
theorem de_var {i : Nat} {x : Str} (hN : X.N[i]? = some x) (hv : Vis X.env.scope x) (hd : (x == ("__debug__" : Str)) = false := by decide) (hcd : (x == ("__classdict__" : Str)) = false := by decide) : PE X (.Name x pos) (tD X.K W (dVar i)) := by
  refine PE.imp (pe_var hN hv hd hcd) fun σ H Q h => ?_
  obtain ⟨B, M, Γ, S, h⟩ := h
  unfold dVar at h
  split at h
  · rename_i r Γ' e
    split at e
    · rename_i d hd
      cases e
      obtain ⟨v, e1, e2⟩ := S.dat i d hd
      exact ⟨v, e1, h v H M ⟨S, Evl.Ex.refl _, e2⟩⟩
    · rename_i d hd
      cases e
      obtain ⟨M', p, e1, S', ex, r⟩ := S.thaw hd
      exact ⟨_, e1, h _ H M' ⟨S', ex, r⟩⟩
    · cases e
  · rename_i e
    split at e <;> cases e
  · exact h.elim
theorem de_c {e : Expr} {v : V} {d : D} (h : PE X e (tC v)) (r : ∀ H, Rep X.K H v d) : PE X e (tD X.K W (dC d)) := PE.imp h fun σ H Q ⟨B, M, Γ, S, q⟩ => q v H M ⟨S, Evl.Ex.refl _, r _⟩
theorem de_int {i j} : PE X (.Constant (.int i) j pos) (tD X.K W (dC (.int i))) := de_c pe_int fun _ => .int i
theorem de_bl {i j} : PE X (.Constant (.bool i) j pos) (tD X.K W (dC (.bl i))) := de_c pe_bl fun _ => .bl i
theorem de_str {i j} : PE X (.Constant (.str i) j pos) (tD X.K W (dC (.str i))) := de_c pe_str fun _ => .str i
theorem de_non {j} : PE X (.Constant .none j pos) (tD X.K W (dC .non)) := de_c pe_non fun _ => .non
/-- a class of the program, a built-in class, a module's constant -/
theorem de_cls {x : Str} (hg : Gl X x) (hm : X.mg x = some (.ref (ga X.K x))) (hd : (x == ("__debug__" : Str)) = false := by decide) : PE X (.Name x pos) (tD X.K W (dC (.cls x))) := de_c (pe_glob (v := .ref (ga X.K x)) hg hm rfl hd) fun _ => .cls x
theorem de_ty {x : Str} {n : String} (hg : Gl X x) (hm : X.mg x = none) (hv : bootBuiltins x = some (.type n)) (hn : x ≠ "__name__" := by decide) (hd : (x == ("__debug__" : Str)) = false := by decide) : PE X (.Name x pos) (tD X.K W (dC (.ty n))) := de_c (pe_bltn (v := .ty n) hg hm hv rfl hn hd) fun _ => .ty n
theorem de_gint {x : Str} {i : Int} {t : Tok} (hg : Gl X x) (hm : X.mg x = some (.int i t)) (hd : (x == ("__debug__" : Str)) = false := by decide) : PE X (.Name x pos) (tD X.K W (dC (.int i))) := de_c (pe_glob (v := .int i) hg hm ⟨_, rfl⟩ hd) fun _ => .int i
theorem de_gstr {x z : Str} {t : Tok} (hg : Gl X x) (hm : X.mg x = some (.str z t)) (hd : (x == ("__debug__" : Str)) = false := by decide) : PE X (.Name x pos) (tD X.K W (dC (.str z))) := de_c (pe_glob (v := .str z) hg hm ⟨_, rfl⟩ hd) fun _ => .str z
end
end Dl
end
section
set_option maxHeartbeats 4000000
/-! Readings over data: truth, tests, and, or, not, displays, arguments. -/
namespace Dl
variable [Tabl]
open PySem PySem.Spec PyProof.Rows L2 Tx He
open Evl (Ex)
def truth : D → Option Bool
  | .non => some false
  | .bl b => some b
  | .int i => some (i != 0)
  | .str z => if z.length ≤ sizeLine then some ((z.length : Int) != 0) else none
  | .tup xs => some (!xs.isEmpty)
  | .lst xs => some (!xs.isEmpty)
  | .dct xs => some (!xs.isEmpty)
  | _ => none
theorem isEmpty_reps {K : PySem.W.Frag} {H : Hp} {vs : List V} {ds : List D} (r : Reps K H vs ds) : ds.isEmpty = vs.isEmpty := by cases r <;> rfl
theorem isEmpty_repK {K : PySem.W.Frag} {H : Hp} {vs : List (L2.Key × V)} {ds : List (L2.Key × D)} (r : RepK K H vs ds) : ds.isEmpty = vs.isEmpty := by cases r <;> rfl
theorem truth_ok {K : PySem.W.Frag} {Hh H : Hp} {v : V} {d : D} {k : Bool} (e : Ex Hh H) (r : Rep K Hh v d) (h : truth d = some k) : TruV K v H k := by
  cases r with
  | non => cases h; rfl
  | bl b => cases h; rfl
  | int i => cases h; rfl
  | str z =>
    simp only [truth] at h
    by_cases hz : z.length ≤ sizeLine
    · rw [if_pos hz] at h
      cases h
      exact ⟨hz, rfl⟩
    · rw [if_neg hz] at h
      cases h
  | tup s r => cases h; exact .inr (.inl ⟨_, Evl.st_of (e _ _ s), by rw [isEmpty_reps r]⟩)
  | lst s r => cases h; exact .inl ⟨_, Evl.sq_of (e _ _ s), by rw [isEmpty_reps r]⟩
  | dct s r => cases h; exact .inr (.inr ⟨_, e _ _ s, by rw [isEmpty_repK r]⟩)
  | _ => cases h
def dTr (f : EM Sl) : EM Bool := f.bind fun x => EM.opt (truth x.d)
def asB : D → Option Bool
  | .bl b => some b
  | _ => none
def dTb (f : EM Sl) : EM Bool := f.bind fun x => EM.opt (asB x.d)
def dTAnd (f g : EM Bool) : EM Bool := f.bind fun b => if b = true then g else EM.ret false
def dTOr (f g : EM Bool) : EM Bool := f.bind fun b => if b = true then EM.ret true else g
def dTNot (f : EM Bool) : EM Bool := f.bind fun b => EM.ret (!b)
def dAnd (f g : EM Sl) : EM Sl := f.bind fun x Γ => match truth x.d with
  | some true => g Γ
  | some false => .ok (.dat x.d) Γ
  | none => .no
def dOr (f g : EM Sl) : EM Sl := f.bind fun x Γ => match truth x.d with
  | some true => .ok (.dat x.d) Γ
  | some false => g Γ
  | none => .no
def dNot (f : EM Sl) : EM Sl := f.bind fun x => EM.opt ((truth x.d).map fun k => .dat (.bl (!k)))
def dIfE (t : EM Bool) (f g : EM Sl) : EM Sl := t.bind fun b => if b = true then f else g
def dChain (g g' : D → D → Option Sl) (fa fb fc : EM Sl) : EM Sl := fa.bind fun x => fb.bind fun y Γ => match (g x.d y.d) with
  | some (.dat (.bl true)) => (fc.bind fun z => EM.opt (g' y.d z.d)) Γ
  | some (.dat (.bl false)) => .ok (.dat (.bl false)) Γ
  | _ => .no
section
variable {K : PySem.W.Frag} {W : WX} {B : Bs} {M : List Addr} {Γ : Gm} {σ : L2.St} {H : Hp}
theorem tDT_use {f : EM Bool} {P : Bool → Hp → Prop} (S : SR K B M Γ σ H) (h : match f Γ with
  | .ok b Γ1 => ∀ H1 M1, SR K B M1 Γ1 σ H1 → Ex (hid H M) (hid H1 M1) → P b H1
  | .exc c fs Γ1 => Fail K W B σ c fs Γ1
  | .no => False) : tDT K W f σ H P := ⟨B, M, Γ, S, h⟩
/-- a value's own shape is not asked any more -/
theorem Val.of_ex {M' M0 : List Addr} {Γ' : Gm} {H' H0 : Hp} {v : V} {r : Sl} (e : Ex (hid H0 M0) (hid H M)) (h : Val K B M Γ' σ H M' H' v r) : Val K B M0 Γ' σ H0 M' H' v r := by
  cases r with
  | dat d => exact ⟨h.1, e.trans h.2.1, h.2.2⟩
  | par d => exact h
  | own d =>
    obtain ⟨p, a1, a2, a3, a4, a5, a6, a7⟩ := h
    exact ⟨p, a1, a2, a3, a4, a5, e.trans a6, a7⟩
end
section
variable {X : Cx} {W : WX} {a b c : Expr} {fa fb fc : EM Sl} {ga gb : EM Bool} {pos : Pos} {rest : List Expr}
theorem dt_val (ha : PE X a (tD X.K W fa)) (he : ∀ whole, isTrue a X.env whole = (do let v ← whole; standAt a.pos; holding [v] (truthy v)) := by intro _; rfl) : PT X a (tDT X.K W (dTr fa)) := by
  refine PT.imp (pt_truth ha he) fun σ H Q ⟨B, M, Γ, S, h⟩ => ?_
  refine tD_use S ?_
  unfold dTr EM.bind at h
  cases e : fa Γ with
  | no => rw [e] at h; exact h
  | exc c fs g => rw [e] at h; exact h
  | ok x Γ1 =>
    rw [e] at h
    intro v H1 M1 S1 e1 r1
    simp only [EM.opt] at h
    cases ht : truth x.d with
    | none => rw [ht] at h; exact h.elim
    | some k =>
      rw [ht] at h
      exact ⟨k, truth_ok hid_ex r1 ht, h H1 M1 S1 e1⟩
theorem q_test {K : PySem.W.Frag} {σ : L2.St} {H : Hp} {Q : Bool → Hp → Prop} (h : tDT K W (dTb fa) σ H Q) : tTest (tD K W fa) σ H Q := by
  obtain ⟨B, M, Γ, S, h⟩ := h
  refine tD_use S ?_
  unfold dTb EM.bind at h
  cases e : fa Γ with
  | no => rw [e] at h; exact h
  | exc c fs g => rw [e] at h; exact h
  | ok x Γ1 =>
    rw [e] at h
    intro v H1 M1 S1 e1 r1
    simp only [EM.opt] at h
    cases hx : x.d with
    | bl k =>
      rw [hx] at h r1
      cases r1
      exact ⟨k, rfl, h H1 M1 S1 e1⟩
    | _ => rw [hx] at h; exact h.elim
theorem q_testT {K : PySem.W.Frag} {t : TE} {σ : L2.St} {H : Hp} {Q : Bool → Hp → Prop} (hi : ∀ Q', tD K W fa σ H Q' → t σ H Q') (h : tDT K W (dTb fa) σ H Q) : tTest t σ H Q := hi _ (q_test h)
theorem dt_cmp {op : CmpOp} {g : D → D → Option Sl} (ho : OpD X (compareOp op) g) (ha : PE X a (tD X.K W fa)) (hb : PE X b (tD X.K W fb)) (hm : behindInMarks op b = false) : PT X (.Compare a [op] [b] pos) (tDT X.K W (dTb (dOp g fa fb))) :=
  PT.imp (pt_cmpR ho ha hb hm) fun _ _ _ h => q_testT (fun _ q => q_bin q) h
theorem q_chain {K : PySem.W.Frag} {g g' : D → D → Option Sl} {σ : L2.St} {H : Hp} {Q : VK} (h : tD K W (dChain g g' fa fb fc) σ H Q) : tChain (rOp K g) (rOp K g') (tD K W fa) (tD K W fb) (tD K W fc) σ H Q := by
  obtain ⟨B, M, Γ, S, h⟩ := h
  refine tD_use S ?_
  unfold dChain EM.bind at h
  cases e : fa Γ with
  | no => rw [e] at h; exact h
  | exc c fs g => rw [e] at h; exact h
  | ok x Γ1 =>
    rw [e] at h
    intro v H1 M1 S1 e1 r1
    refine tD_use S1 ?_
    simp only at h
    cases e2 : fb Γ1 with
    | no => rw [e2] at h; exact h
    | exc c fs g => rw [e2] at h; exact h
    | ok y Γ2 =>
      rw [e2] at h
      intro u H2 M2 S2 ex2 r2
      simp only at h
      split at h
      · rename_i r Γ' eq
        split at eq
        · rename_i hg
          refine ⟨M2, x.d, y.d, _, S2.dm, r1.mono ex2, r2, hg, fun v3 H3 n => ?_⟩
          obtain ⟨n1, n2⟩ := n
          cases n2
          refine ⟨true, rfl, ?_⟩
          refine tD_use (S2.extT n1) ?_
          cases e3 : fc Γ2 with
          | no => rw [e3] at eq; cases eq
          | exc c fs g => rw [e3] at eq; cases eq
          | ok z Γ3 =>
            rw [e3] at eq
            intro w H4 M4 S4 ex4 r4
            simp only [EM.opt] at eq
            cases hg' : g' y.d z.d with
            | none => rw [hg'] at eq; cases eq
            | some rr =>
              rw [hg'] at eq
              cases eq
              exact ⟨M4, y.d, z.d, _, S4.dm, (r2.mono (hid_monoT n1)).mono ex4, r4, hg', fun v5 H5 n5 => h v5 H5 M4 (n5.val S4 ((e1.trans ex2).trans ((hid_monoT n1).trans ex4)))⟩
        · rename_i hg
          cases eq
          refine ⟨M2, x.d, y.d, _, S2.dm, r1.mono ex2, r2, hg, fun v3 H3 n => ?_⟩
          obtain ⟨n1, n2⟩ := n
          cases n2
          exact ⟨false, rfl, h _ _ M2 ⟨S2.extT n1, (e1.trans ex2).trans (hid_monoT n1), .bl false⟩⟩
        · cases eq
      · rename_i c fs Γ' eq
        split at eq
        · rename_i hg
          refine ⟨M2, x.d, y.d, _, S2.dm, r1.mono ex2, r2, hg, fun v3 H3 n => ?_⟩
          obtain ⟨n1, n2⟩ := n
          cases n2
          refine ⟨true, rfl, ?_⟩
          refine tD_use (S2.extT n1) ?_
          cases e3 : fc Γ2 with
          | no => rw [e3] at eq; cases eq
          | exc c fs g => rw [e3] at eq; cases eq; exact h
          | ok z Γ3 =>
            rw [e3] at eq
            simp only [EM.opt] at eq
            split at eq <;> cases eq
        · cases eq
        · cases eq
      · exact h.elim
theorem de_chain {op op' : CmpOp} {g g' : D → D → Option Sl} (ho : OpD X (compareOp op) g) (ho' : OpD X (compareOp op') g') (ha : PE X a (tD X.K W fa)) (hb : PE X b (tD X.K W fb)) (hc : PE X c (tD X.K W fc)) (hm : lastMarks [op, op'] [b, c] = false := by with_unfolding_all rfl) :
    PE X (.Compare a [op, op'] [b, c] pos) (tD X.K W (dChain g g' fa fb fc)) := PE.imp (pe_chain ho ho' ha hb hc hm) fun _ _ _ h => q_chain h
theorem dt_chain {op op' : CmpOp} {g g' : D → D → Option Sl} (ho : OpD X (compareOp op) g) (ho' : OpD X (compareOp op') g') (ha : PE X a (tD X.K W fa)) (hb : PE X b (tD X.K W fb)) (hc : PE X c (tD X.K W fc)) (hm : lastMarks [op, op'] [b, c] = false := by with_unfolding_all rfl) :
    PT X (.Compare a [op, op'] [b, c] pos) (tDT X.K W (dTb (dChain g g' fa fb fc))) := PT.imp (pt_chain ho ho' ha hb hc hm) fun _ _ _ h => q_testT (fun _ q => q_chain q) h
theorem dt_not (ha : PT X a (tDT X.K W ga)) : PT X (.UnaryOp .Not a pos) (tDT X.K W (dTNot ga)) := by
  refine PT.imp (pt_not ha) fun σ H Q ⟨B, M, Γ, S, h⟩ => tDT_use S ?_
  unfold dTNot EM.bind at h
  cases e : ga Γ with
  | no => rw [e] at h; exact h
  | exc c fs g => rw [e] at h; exact h
  | ok x Γ1 => rw [e] at h; exact h
theorem dw_and1 (ha : PT X a (tDT X.K W ga)) : PW X (.BoolOp .And [a] pos) (tDT X.K W ga) := pw_and1 ha
theorem dw_or1 (ha : PT X a (tDT X.K W ga)) : PW X (.BoolOp .Or [a] pos) (tDT X.K W ga) := pw_or1 ha
theorem dw_and (ha : PT X a (tDT X.K W ga)) (hb : PW X (.BoolOp .And (b :: rest) pos) (tDT X.K W gb)) : PW X (.BoolOp .And (a :: b :: rest) pos) (tDT X.K W (dTAnd ga gb)) := by
  refine PW.imp (pw_and ha hb) fun σ H Q ⟨B, M, Γ, S, h⟩ => tDT_use S ?_
  unfold dTAnd EM.bind at h
  cases e : ga Γ with
  | no => rw [e] at h; exact h
  | exc c fs g => rw [e] at h; exact h
  | ok x Γ1 =>
    rw [e] at h
    intro H1 M1 S1 e1
    cases x with
    | false => exact h H1 M1 S1 e1
    | true =>
      refine tDT_use S1 ?_
      simp only [if_true] at h
      cases e2 : gb Γ1 with
      | no => rw [e2] at h; exact h
      | exc c fs g => rw [e2] at h; exact h
      | ok y Γ2 => rw [e2] at h; exact fun H2 M2 S2 ex => h H2 M2 S2 (e1.trans ex)
theorem dw_or (ha : PT X a (tDT X.K W ga)) (hb : PW X (.BoolOp .Or (b :: rest) pos) (tDT X.K W gb)) : PW X (.BoolOp .Or (a :: b :: rest) pos) (tDT X.K W (dTOr ga gb)) := by
  refine PW.imp (pw_or ha hb) fun σ H Q ⟨B, M, Γ, S, h⟩ => tDT_use S ?_
  unfold dTOr EM.bind at h
  cases e : ga Γ with
  | no => rw [e] at h; exact h
  | exc c fs g => rw [e] at h; exact h
  | ok x Γ1 =>
    rw [e] at h
    intro H1 M1 S1 e1
    cases x with
    | true => exact h H1 M1 S1 e1
    | false =>
      refine tDT_use S1 ?_
      simp only [if_false, Bool.false_eq_true] at h
      cases e2 : gb Γ1 with
      | no => rw [e2] at h; exact h
      | exc c fs g => rw [e2] at h; exact h
      | ok y Γ2 => rw [e2] at h; exact fun H2 M2 S2 ex => h H2 M2 S2 (e1.trans ex)
theorem de_and (ha : PE X a (tD X.K W fa)) (hb : PE X (.BoolOp .And (b :: rest) pos) (tD X.K W fb)) : PE X (.BoolOp .And (a :: b :: rest) pos) (tD X.K W (dAnd fa fb)) := by
  refine PE.imp (pe_andT ha hb) fun σ H Q ⟨B, M, Γ, S, h⟩ => tD_use S ?_
  unfold dAnd EM.bind at h
  cases e : fa Γ with
  | no => rw [e] at h; exact h
  | exc c fs g => rw [e] at h; exact h
  | ok x Γ1 =>
    rw [e] at h
    intro v H1 M1 S1 e1 r1
    simp only at h
    cases ht : truth x.d with
    | none => rw [ht] at h; exact h.elim
    | some k =>
      rw [ht] at h
      refine ⟨k, truth_ok hid_ex r1 ht, ?_⟩
      cases k with
      | false => exact h v H1 M1 ⟨S1, e1, r1⟩
      | true =>
        refine ⟨B, M1, Γ1, S1, ?_⟩
        simp only at h
        cases e2 : fb Γ1 with
        | no => rw [e2] at h; exact h
        | exc c fs g => rw [e2] at h; exact h
        | ok y Γ2 => rw [e2] at h; exact fun v2 H2 M2 q => h v2 H2 M2 (q.of_ex e1)
theorem de_or (ha : PE X a (tD X.K W fa)) (hb : PE X (.BoolOp .Or (b :: rest) pos) (tD X.K W fb)) : PE X (.BoolOp .Or (a :: b :: rest) pos) (tD X.K W (dOr fa fb)) := by
  refine PE.imp (pe_orT ha hb) fun σ H Q ⟨B, M, Γ, S, h⟩ => tD_use S ?_
  unfold dOr EM.bind at h
  cases e : fa Γ with
  | no => rw [e] at h; exact h
  | exc c fs g => rw [e] at h; exact h
  | ok x Γ1 =>
    rw [e] at h
    intro v H1 M1 S1 e1 r1
    simp only at h
    cases ht : truth x.d with
    | none => rw [ht] at h; exact h.elim
    | some k =>
      rw [ht] at h
      refine ⟨k, truth_ok hid_ex r1 ht, ?_⟩
      cases k with
      | true => exact h v H1 M1 ⟨S1, e1, r1⟩
      | false =>
        refine ⟨B, M1, Γ1, S1, ?_⟩
        simp only at h
        cases e2 : fb Γ1 with
        | no => rw [e2] at h; exact h
        | exc c fs g => rw [e2] at h; exact h
        | ok y Γ2 => rw [e2] at h; exact fun v2 H2 M2 q => h v2 H2 M2 (q.of_ex e1)
theorem de_one {op} (ha : PE X a (tD X.K W fa)) : PE X (.BoolOp op [a] pos) (tD X.K W fa) := pe_one ha
theorem de_not (ha : PE X a (tD X.K W fa)) : PE X (.UnaryOp .Not a pos) (tD X.K W (dNot fa)) := by
  refine PE.imp (pe_notT ha) fun σ H Q ⟨B, M, Γ, S, h⟩ => tD_use S ?_
  unfold dNot EM.bind at h
  cases e : fa Γ with
  | no => rw [e] at h; exact h
  | exc c fs g => rw [e] at h; exact h
  | ok x Γ1 =>
    rw [e] at h
    intro v H1 M1 S1 e1 r1
    simp only [EM.opt] at h
    cases ht : truth x.d with
    | none => rw [ht] at h; exact h.elim
    | some k =>
      rw [ht] at h
      exact ⟨k, truth_ok hid_ex r1 ht, h _ H1 M1 ⟨S1, e1, .bl _⟩⟩
theorem de_ifExp (hc : PT X c (tDT X.K W ga)) (ha : PE X a (tD X.K W fa)) (hb : PE X b (tD X.K W fb)) : PE X (.IfExp c a b pos) (tD X.K W (dIfE ga fa fb)) := by
  refine PE.imp (pe_ifExp hc ha hb) fun σ H Q ⟨B, M, Γ, S, h⟩ => tDT_use S ?_
  unfold dIfE EM.bind at h
  cases e : ga Γ with
  | no => rw [e] at h; exact h
  | exc c fs g => rw [e] at h; exact h
  | ok x Γ1 =>
    rw [e] at h
    intro H1 M1 S1 e1
    cases x with
    | true =>
      refine ⟨B, M1, Γ1, S1, ?_⟩
      simp only [if_true] at h
      cases e2 : fa Γ1 with
      | no => rw [e2] at h; exact h
      | exc c fs g => rw [e2] at h; exact h
      | ok y Γ2 => rw [e2] at h; exact fun v2 H2 M2 q => h v2 H2 M2 (q.of_ex e1)
    | false =>
      refine ⟨B, M1, Γ1, S1, ?_⟩
      simp only [if_false, Bool.false_eq_true] at h
      cases e2 : fb Γ1 with
      | no => rw [e2] at h; exact h
      | exc c fs g => rw [e2] at h; exact h
      | ok y Γ2 => rw [e2] at h; exact fun v2 H2 M2 q => h v2 H2 M2 (q.of_ex e1)
end
/-! ### arguments -/
/-- an argument: data, or the thing that a slot holds alone -/
inductive Ar where
  | dat (d : D) | slot (i : Nat)
def ArgV (K : PySem.W.Frag) (M : List Addr) (σ : L2.St) (H : Hp) : List V → List Ar → Prop
  | [], [] => True
  | v :: vs, .dat d :: as => Rep K (hid H M) v d ∧ ArgV K M σ H vs as
  | v :: vs, .slot i :: as => σ[i]? = some (some v) ∧ ArgV K M σ H vs as
  | _, _ => False
theorem ArgV.mono {K : PySem.W.Frag} {M M' : List Addr} {σ : L2.St} {H H' : Hp} (e : Ex (hid H M) (hid H' M')) : ∀ {vs : List V} {as : List Ar}, ArgV K M σ H vs as → ArgV K M' σ H' vs as
  | [], [], h => h
  | _ :: _, .dat _ :: _, ⟨a, b⟩ => ⟨a.mono e, ArgV.mono e b⟩
  | _ :: _, .slot _ :: _, ⟨a, b⟩ => ⟨a, ArgV.mono e b⟩
def tDA (K : PySem.W.Frag) (W : WX) (f : EM (List Ar)) : TA := fun σ H Q => ∃ B M Γ, SR K B M Γ σ H ∧ match f Γ with
  | .ok as Γ' => ∀ vs H' M', SR K B M' Γ' σ H' → Ex (hid H M) (hid H' M') → ArgV K M' σ H' vs as → Q vs H'
  | .exc c fs Γ' => Fail K W B σ c fs Γ'
  | .no => False
def dANil : EM (List Ar) := EM.ret []
def dACons (f : EM Sl) (g : EM (List Ar)) : EM (List Ar) := f.bind fun x => g.bind fun as => EM.ret (.dat x.d :: as)
def dASlot (i : Nat) (g : EM (List Ar)) : EM (List Ar) := fun Γ => match Γ[i]? with
  | some (some (.own _)) => (g.bind fun as => EM.ret (.slot i :: as)) Γ
  | some (some (.par _)) => (g.bind fun as => EM.ret (.slot i :: as)) Γ
  | _ => .no
def seqD : D → Option (List D)
  | .lst xs => some xs
  | .tup xs => some xs
  | _ => none
def dAStar (f : EM Sl) (g : EM (List Ar)) : EM (List Ar) := f.bind fun x Γ => match seqD x.d with
  | some ds => (g.bind fun as => EM.ret (ds.map Ar.dat ++ as)) Γ
  | none => .no
theorem ArgV.reps {K : PySem.W.Frag} {M : List Addr} {σ : L2.St} {H : Hp} : ∀ {vs us : List V} {ds : List D} {as : List Ar}, Reps K (hid H M) vs ds → ArgV K M σ H us as → ArgV K M σ H (vs ++ us) (ds.map Ar.dat ++ as)
  | _, _, _, _, .nil, s => s
  | _, _, _, _, .cons h t, s => ⟨h, ArgV.reps t s⟩
section
variable {X : Cx} {W : WX} {a b c : Expr} {es : List Expr} {fa fb fc : EM Sl} {ga : EM (List Ar)} {pos : Pos}
theorem da_nil : PA X [] (tDA X.K W dANil) := PA.imp pa_nil fun σ H Q ⟨B, M, Γ, S, h⟩ => h [] H M S (Evl.Ex.refl _) trivial
theorem da_cons (ha : PE X a (tD X.K W fa)) (hr : PA X es (tDA X.K W ga)) (hs : starEach (a :: es) X.env = (false, eval a X.env) :: starEach es X.env := by rfl) : PA X (a :: es) (tDA X.K W (dACons fa ga)) := by
  refine PA.imp (pa_cons ha hr hs) fun σ H Q ⟨B, M, Γ, S, h⟩ => tD_use S ?_
  unfold dACons EM.bind at h
  cases e : fa Γ with
  | no => rw [e] at h; exact h
  | exc c fs g => rw [e] at h; exact h
  | ok x Γ1 =>
    rw [e] at h
    intro v H1 M1 S1 e1 r1
    refine ⟨B, M1, Γ1, S1, ?_⟩
    simp only at h
    cases e2 : ga Γ1 with
    | no => rw [e2] at h; exact h
    | exc c fs g => rw [e2] at h; exact h
    | ok as Γ2 =>
      rw [e2] at h
      exact fun vs H2 M2 S2 ex av => h (v :: vs) H2 M2 S2 (e1.trans ex) ⟨r1.mono ex, av⟩
theorem da_slot {i : Nat} {x : Str} {p : Pos} (hN : X.N[i]? = some x) (hv : Vis X.env.scope x) (hr : PA X es (tDA X.K W ga)) (hd : (x == ("__debug__" : Str)) = false := by decide) (hcd : (x == ("__classdict__" : Str)) = false := by decide)
    (hs : starEach (.Name x p :: es) X.env = (false, eval (.Name x p) X.env) :: starEach es X.env := by rfl) : PA X (.Name x p :: es) (tDA X.K W (dASlot i ga)) := by
  refine PA.imp (pa_cons (pe_var hN hv hd hcd) hr hs) fun σ H Q ⟨B, M, Γ, S, h⟩ => ?_
  have fin : ∀ v, σ[i]? = some (some v) → (match (ga.bind fun as => EM.ret (.slot i :: as)) Γ with
      | .ok as Γ' => ∀ vs H' M', SR X.K B M' Γ' σ H' → Ex (hid H M) (hid H' M') → ArgV X.K M' σ H' vs as → Q vs H'
      | .exc c fs Γ' => Fail X.K W B σ c fs Γ'
      | .no => False) → tCons (tVar i) (tDA X.K W ga) σ H Q := fun v ev h => by
    refine ⟨v, ev, B, M, Γ, S, ?_⟩
    unfold EM.bind at h
    cases e2 : ga Γ with
    | no => rw [e2] at h; exact h
    | exc c fs g => rw [e2] at h; exact h
    | ok as Γ2 =>
      rw [e2] at h
      exact fun vs H2 M2 S2 ex av => h (v :: vs) H2 M2 S2 ex ⟨ev, av⟩
  unfold dASlot at h
  cases hi : Γ[i]? with
  | none => rw [hi] at h; exact h.elim
  | some o =>
    cases o with
    | none => rw [hi] at h; exact h.elim
    | some sl =>
      cases sl with
      | dat d => rw [hi] at h; exact h.elim
      | own d =>
        obtain ⟨p, e1, _⟩ := S.own i d hi
        rw [hi] at h
        exact fin _ e1 h
      | par d =>
        obtain ⟨p, e1, _⟩ := S.par i d hi
        rw [hi] at h
        exact fin _ e1 h
theorem da_star {p : Pos} (he : PE X a (tD X.K W fa)) (hr : PA X es (tDA X.K W ga)) (hs : starEach (.Starred a p :: es) X.env = (true, eval a X.env) :: starEach es X.env := by rfl) : PA X (.Starred a p :: es) (tDA X.K W (dAStar fa ga)) := by
  refine PA.imp (StX.pa_star he hr hs) fun σ H Q ⟨B, M, Γ, S, h⟩ => tD_use S ?_
  unfold dAStar EM.bind at h
  cases e : fa Γ with
  | no => rw [e] at h; exact h
  | exc c fs g => rw [e] at h; exact h
  | ok x Γ1 =>
    rw [e] at h
    intro v H1 M1 S1 e1 r1
    simp only at h
    have fin : ∀ p xs ds, v = V.ref p → (SqT X.K (hid H1 M1) p xs ∨ SqL X.K (hid H1 M1) p xs) → Reps X.K (hid H1 M1) xs ds → seqD x.d = some ds → ∃ p xs, v = V.ref p ∧ (SqT X.K H1 p xs ∨ SqL X.K H1 p xs) ∧ tDA X.K W ga σ H1 fun ys H2 => Q (xs ++ ys) H2 := fun p xs ds ev hs rs hd => by
      refine ⟨p, xs, ev, hs.imp (Evl.ex_t hid_ex) (Evl.ex_l hid_ex), B, M1, Γ1, S1, ?_⟩
      rw [hd] at h
      simp only at h
      cases e2 : ga Γ1 with
      | no => rw [e2] at h; exact h
      | exc c fs g => rw [e2] at h; exact h
      | ok as Γ2 =>
        rw [e2] at h
        exact fun vs H2 M2 S2 ex av => h _ H2 M2 S2 (e1.trans ex) (ArgV.reps (rs.mono ex) av)
    cases hx : x.d with
    | tup ds =>
      rw [hx] at r1
      cases r1 with
      | tup hs rs => exact fin _ _ _ rfl (.inl (Evl.st_of hs)) rs (by rw [hx]; rfl)
    | lst ds =>
      rw [hx] at r1
      cases r1 with
      | lst hs rs => exact fin _ _ _ rfl (.inr (Evl.sq_of hs)) rs (by rw [hx]; rfl)
    | _ => rw [hx] at h; exact h.elim
end
/-- arguments that are data -/
def dats : List Ar → Option (List D)
  | [] => some []
  | .dat d :: as => (dats as).map (d :: ·)
  | .slot _ :: _ => none
theorem ArgV.dats {K : PySem.W.Frag} {M : List Addr} {σ : L2.St} {H : Hp} : ∀ {vs : List V} {as : List Ar} {ds : List D}, ArgV K M σ H vs as → dats as = some ds → Reps K (hid H M) vs ds
  | [], [], _, _, e => by cases e; exact .nil
  | _ :: _, .dat d :: as, ds, ⟨a, b⟩, e => by
    unfold Dl.dats at e
    cases h : Dl.dats as with
    | none => rw [h] at e; cases e
    | some ds' => rw [h] at e; cases e; exact .cons a (ArgV.dats b h)
  | _ :: _, .slot _ :: _, _, _, e => by cases e
/-- a built-in function of data -/
def dCl (g : List D → Option Sl) (fa : EM (List Ar)) : EM Sl := fa.bind fun as => EM.opt ((dats as).bind g)
def dTup (fa : EM (List Ar)) : EM Sl := dCl (fun ds => if ds.length ≤ sizeLine then some (.dat (.tup ds)) else none) fa
def dLst (fa : EM (List Ar)) : EM Sl := dCl (fun ds => if ds.length ≤ sizeLine then some (.own (.lst ds)) else none) fa
section
variable {X : Cx} {W : WX} {e : Expr} {es : List Expr} {ga : EM (List Ar)} {pos : Pos}
theorem q_cl {K : PySem.W.Frag} {g : List D → Option Sl} {r : List V → Hp → VK → Prop} {σ : L2.St} {H : Hp} {Q : VK} (hr : ∀ vs H Q, rCl K g vs H Q → r vs H Q) (h : tD K W (dCl g ga) σ H Q) : tDA K W ga σ H fun vs H1 => r vs H1 Q := by
  obtain ⟨B, M, Γ, S, h⟩ := h
  refine ⟨B, M, Γ, S, ?_⟩
  unfold dCl EM.bind at h
  cases e : ga Γ with
  | no => rw [e] at h; exact h
  | exc c fs g => rw [e] at h; exact h
  | ok as Γ1 =>
    rw [e] at h
    intro vs H1 M1 S1 e1 av
    simp only [EM.opt] at h
    cases hd : dats as with
    | none => rw [hd] at h; exact h.elim
    | some ds =>
      rw [hd] at h
      simp only [Option.bind_some] at h
      cases hg : g ds with
      | none => rw [hg] at h; exact h.elim
      | some r =>
        rw [hg] at h
        exact hr _ _ _ ⟨M1, ds, r, S1.dm, av.dats hd, hg, fun v H' n => h v H' M1 (n.val S1 e1)⟩
theorem new_not {H : Hp} {M : List Addr} {p : Addr} (dm : Dm M H) (hp : H p = none) : p ∉ M := fun z => by
  obtain ⟨o, e, _⟩ := dm.dom p z
  rw [hp] at e; cases e
theorem new_hid {H : Hp} {M : List Addr} {p : Addr} {o : HO} (hp : H p = none) : Ex (hid H M) (hid (upd H p o) (p :: M)) := fun a u z => by
  obtain ⟨n, z, t⟩ := hid_ofT z
  have ne : a ≠ p := ne_of_none z hp
  exact hid_at (fun q => (List.mem_cons.mp q).elim ne n) (by rw [upd_ne ne]; exact z) t
theorem new_tup {K : PySem.W.Frag} {H : Hp} {M : List Addr} {p : Addr} {vs : List V} {ds : List D} (dm : Dm M H) (hp : H p = none) (rs : Reps K (hid H M) vs ds) : New K M H (upd H p (.tup vs)) (.ref p) (.dat (.tup ds)) :=
  ⟨.of (Evl.Ex.new hp), .tup (hid_at (new_not dm hp) upd_same (fun _ z => by cases z)) (rs.mono (hid_mono (Evl.Ex.new hp)))⟩
theorem new_lst {K : PySem.W.Frag} {H : Hp} {M : List Addr} {p : Addr} {vs : List V} {ds : List D} (hp : H p = none) (rs : Reps K (hid H M) vs ds) : New K M H (upd H p (.lst vs)) (.ref p) (.own (.lst ds)) :=
  ⟨p, rfl, .of hp, .of (Evl.Ex.new hp), vs, upd_same, rs.mono (new_hid hp)⟩
theorem de_tup {x1} (h : PA X es (tDA X.K W ga)) : PE X (.Tuple es x1 pos) (tD X.K W (dTup ga)) := by
  refine PE.imp (pe_tup h) fun σ H Q q => ?_
  refine q_cl (r := fun vs H Q => vs.length ≤ sizeLine ∧ ∀ p, H p = none → Q (.ref p) (upd H p (.tup vs))) (fun vs H Q z => ?_) q
  obtain ⟨M, ds, r, dm, rs, hg, k⟩ := z
  dsimp only at hg
  split at hg
  · rename_i hl
    cases hg
    exact ⟨by rw [rs.length]; exact hl, fun p hp => k _ _ (new_tup dm hp rs)⟩
  · cases hg
theorem de_lst (h : PA X es (tDA X.K W ga)) : PE X (.List es pos) (tD X.K W (dLst ga)) := by
  refine PE.imp (pe_lst h) fun σ H Q q => ?_
  refine q_cl (r := fun vs H Q => vs.length ≤ sizeLine ∧ ∀ p, H p = none → Q (.ref p) (upd H p (.lst vs))) (fun vs H Q z => ?_) q
  obtain ⟨M, ds, r, dm, rs, hg, k⟩ := z
  dsimp only at hg
  split at hg
  · rename_i hl
    cases hg
    exact ⟨by rw [rs.length]; exact hl, fun p hp => k _ _ (new_lst hp rs)⟩
  · cases hg
theorem de_callB {id : String} {x : Str} {p : Pos} {g : List D → Option Sl} (hc : ClD X (.builtin id) g) (hg : Gl X x) (hm : X.mg x = none) (hv : bootBuiltins x = some (.builtin id)) (ha : PA X (e :: es) (tDA X.K W ga)) (hn : x ≠ "__name__" := by decide) (hdb : (x == ("__debug__" : Str)) = false := by decide)
    (he : starEach (e :: es) X.env = (false, eval e X.env) :: starEach es X.env := by rfl) (hpl : (backTo pos (starEach es X.env)).any (·.1) = false := by rfl) : PE X (.Call (.Name x p) (e :: es) [] pos) (tD X.K W (dCl g ga)) :=
  PE.imp (pe_callB hc hg hm hv ha hn hdb he hpl) fun σ H Q q => q_cl (r := rCl X.K g) (fun _ _ _ z => z) q
theorem de_callTy {id : String} {x : Str} {p : Pos} {g : List D → Option Sl} (hc : ClD X (.type id) g) (hg : Gl X x) (hm : X.mg x = none) (hv : bootBuiltins x = some (.type id)) (ha : PA X (e :: es) (tDA X.K W ga)) (hn : x ≠ "__name__" := by decide) (hdb : (x == ("__debug__" : Str)) = false := by decide)
    (he : starEach (e :: es) X.env = (false, eval e X.env) :: starEach es X.env := by rfl) (hpl : (backTo pos (starEach es X.env)).any (·.1) = false := by rfl) : PE X (.Call (.Name x p) (e :: es) [] pos) (tD X.K W (dCl g ga)) :=
  PE.imp (pe_callTy hc hg hm hv ha hn hdb he hpl) fun σ H Q q => q_cl (r := rCl X.K g) (fun _ _ _ z => z) q
end
end Dl
end
section
set_option maxHeartbeats 4000000
/-! Defs over data: what a def promises, how it is called. -/
namespace Dl
variable [Tabl]
open PySem PySem.Spec PyProof.Rows L2 Tx He
open Evl (Ex)
/-- how a def ends: its value, what it leaves in the things that were handed over -/
inductive R0 where
  | ok (r : Sl) (ps : List D) | exc (c : Str) (fs : List (Str × D)) (ps : List D) | no
abbrev Fn := List Sl → R0
def wx (E : XK) : WX := fun c d _ H => E c d H
def ParsAt (K : PySem.W.Frag) (Hh : Hp) (B : Bs) (H : Hp) : Nat → List Sl → List D → Prop
  | _, [], [] => True
  | i, .par _ :: as, d :: ps => (∃ p, B.pa i = some p ∧ OwnAt K Hh H p d) ∧ ParsAt K Hh B H (i + 1) as ps
  | i, .dat _ :: as, ps => ParsAt K Hh B H (i + 1) as ps
  | _, _, _ => False
def FrmP (B : Bs) (H : Hp) : Prop := (∀ a o, B.H0 a = some o → NT o → (∀ i, B.pa i ≠ some a) → H a = some o) ∧ TabsH H
def Post (K : PySem.W.Frag) (B : Bs) (sls : List Sl) (H' : Hp) (v : V) (ps : List D) : Sl → Prop
  | .dat d => ParsAt K (hid H' B.M0) B H' 0 sls ps ∧ Rep K (hid H' B.M0) v d
  | .own d => ∃ p, v = .ref p ∧ Fre B.H0 p ∧ ParsAt K (hid H' (p :: B.M0)) B H' 0 sls ps ∧ OwnAt K (hid H' (p :: B.M0)) H' p d
  | .par _ => False
def spE (K : PySem.W.Frag) (F : Fn) : Sp := fun vs H Q E => ∃ B sls, B.H0 = H ∧ SR K B B.M0 (sls.map some) (vs.map some) H ∧ (∀ (i : Nat) (d : D), sls[i]? ≠ some (.own d)) ∧ match F sls with
  | .ok r ps => ∀ v H', FrmP B H' → Post K B sls H' v ps r → Q v H'
  | .exc c fs ps => ∀ d H', FrmP B H' → ParsAt K (hid H' B.M0) B H' 0 sls ps → ExcAt K (hid H' B.M0) d fs → E (.ref (ga K c)) d H'
  | .no => False
/-- .. by so many parameters -/
def spD (K : PySem.W.Frag) (n : Nat) (F : Fn) : Sp := fun vs H Q E => vs.length = n ∧ spE K F vs H Q E
/-! ### a call, over data -/
def sRes (Γ : Gm) : List Ar → Option (List Sl)
  | [] => some []
  | .dat d :: as => (sRes Γ as).map (.dat d :: ·)
  | .slot i :: as => match Γ[i]? with
    | some (some (.own d)) => (sRes Γ as).map (.par d :: ·)
    | some (some (.par d)) => (sRes Γ as).map (.par d :: ·)
    | _ => none
def slots : List Ar → List Nat
  | [] => []
  | .dat _ :: as => slots as
  | .slot i :: as => i :: slots as
def zipS : List Ar → List D → List (Nat × D)
  | .slot i :: as, d :: ps => (i, d) :: zipS as ps
  | .dat _ :: as, ps => zipS as ps
  | _, _ => []
def putS : Option D → Option Sl → Option Sl
  | some d, some (.own _) => some (.own d)
  | some d, some (.par _) => some (.par d)
  | _, s => s
def putB (l : List (Nat × D)) : Nat → Gm → Gm
  | _, [] => []
  | n, s :: Γ => putS (l.lookup n) s :: putB l (n + 1) Γ
omit [Tabl] in
theorem putB_nil : ∀ (n : Nat) (Γ : Gm), putB [] n Γ = Γ
  | _, [] => rfl
  | n, s :: Γ => by
    show putS none s :: putB [] (n + 1) Γ = s :: Γ
    rw [putB_nil (n + 1) Γ]
    cases s <;> rfl
omit [Tabl] in
theorem putB_len (l : List (Nat × D)) : ∀ (n : Nat) (Γ : Gm), (putB l n Γ).length = Γ.length
  | _, [] => rfl
  | n, s :: Γ => congrArg Nat.succ (putB_len l (n + 1) Γ)
omit [Tabl] in
theorem putB_get (l : List (Nat × D)) : ∀ (n : Nat) (Γ : Gm) (i : Nat), (putB l n Γ)[i]? = Γ[i]?.map (putS (l.lookup (n + i)))
  | _, [], i => by simp [putB]
  | n, s :: Γ, 0 => by simp [putB]
  | n, s :: Γ, i + 1 => by
    have h := putB_get l (n + 1) Γ i
    have e : n + 1 + i = n + (i + 1) := by omega
    rw [e] at h
    simpa [putB] using h
def callD (F : Fn) (as : List Ar) : EM Sl := fun Γ => match sRes Γ as with
  | none => .no
  | some sls => if (slots as).Nodup then match F sls with
      | .ok r ps => .ok r (putB (zipS as ps) 0 Γ)
      | .exc c fs ps => .exc c fs (putB (zipS as ps) 0 Γ)
      | .no => .no
    else .no
def dCall (F : Fn) (fa : EM (List Ar)) : EM Sl := fa.bind fun as => callD F as
section
variable {K : PySem.W.Frag} {B : Bs} {M : List Addr} {Γ : Gm} {σ : L2.St} {H : Hp}
/-- where the things handed over stand -/
def paOf (σ : L2.St) (as : List Ar) : Nat → Option Addr := fun j => match as[j]? with
  | some (.slot i) => (match σ[i]? with | some (some (.ref p)) => some p | _ => none)
  | _ => none
def held (Γ : Gm) (i : Nat) : Prop := (∃ d, Γ[i]? = some (some (.own d))) ∨ ∃ d, Γ[i]? = some (some (.par d))
theorem sRes_held : ∀ {as : List Ar} {sls : List Sl}, sRes Γ as = some sls → ∀ i ∈ slots as, held Γ i
  | [], _, _, i, h => by cases h
  | .dat d :: as, sls, e, i, h => by
    unfold sRes at e
    cases q : sRes Γ as with
    | none => rw [q] at e; cases e
    | some l => exact sRes_held q i h
  | .slot k :: as, sls, e, i, h => by
    unfold sRes at e
    rcases List.mem_cons.mp h with h | h
    · subst h
      cases q : Γ[i]? with
      | none => rw [q] at e; cases e
      | some o => cases o with
        | none => rw [q] at e; cases e
        | some s => cases s with
          | dat d => rw [q] at e; cases e
          | own d => exact .inl ⟨d, q⟩
          | par d => exact .inr ⟨d, q⟩
    · cases q : sRes Γ as with
      | none =>
        rw [q] at e
        split at e <;> cases e
      | some l => exact sRes_held q i h
theorem slots_mem : ∀ {as : List Ar} {j i : Nat}, as[j]? = some (.slot i) → i ∈ slots as
  | [], _, _, e => by simp at e
  | .dat d :: as, 0, i, e => by simp at e
  | .dat d :: as, j + 1, i, e => slots_mem (as := as) (j := j) (by simpa using e)
  | .slot k :: as, 0, i, e => by
    simp at e
    subst e
    exact List.mem_cons_self ..
  | .slot k :: as, j + 1, i, e => List.mem_cons_of_mem _ (slots_mem (as := as) (j := j) (by simpa using e))
theorem slots_inj : ∀ {as : List Ar} {j k i : Nat}, (slots as).Nodup → as[j]? = some (.slot i) → as[k]? = some (.slot i) → j = k
  | [], _, _, _, _, e, _ => by simp at e
  | .dat d :: as, 0, _, i, _, e, _ => by simp at e
  | .dat d :: as, _ + 1, 0, i, _, _, e => by simp at e
  | .dat d :: as, j + 1, k + 1, i, n, e, f => congrArg Nat.succ (slots_inj (as := as) n (by simpa using e) (by simpa using f))
  | .slot m :: as, 0, 0, i, _, _, _ => rfl
  | .slot m :: as, 0, k + 1, i, n, e, f => by
    simp at e
    subst e
    exact absurd (slots_mem (as := as) (j := k) (by simpa using f)) (List.nodup_cons.mp n).1
  | .slot m :: as, j + 1, 0, i, n, e, f => by
    simp at f
    subst f
    exact absurd (slots_mem (as := as) (j := j) (by simpa using e)) (List.nodup_cons.mp n).1
  | .slot m :: as, j + 1, k + 1, i, n, e, f => congrArg Nat.succ (slots_inj (as := as) (List.nodup_cons.mp n).2 (by simpa using e) (by simpa using f))
theorem held_at (S : SR K B M Γ σ H) {i : Nat} (h : held Γ i) : ∃ p d, σ[i]? = some (some (.ref p)) ∧ p ∈ M ∧ OwnAt K (hid H M) H p d ∧ (Γ[i]? = some (some (.own d)) ∨ Γ[i]? = some (some (.par d))) := by
  rcases h with ⟨d, h⟩ | ⟨d, h⟩
  · obtain ⟨p, e1, e2, e3, e4, _⟩ := S.own i d h
    exact ⟨p, d, e1, e2, e4, .inl h⟩
  · obtain ⟨p, e1, e2, e3⟩ := S.par i d h
    exact ⟨p, d, e1, S.sub p (S.bok.pin i p e2), e3, .inr h⟩
/-- two slots that hold one thing are one -/
theorem held_inj (S : SR K B M Γ σ H) {i j : Nat} {p : Addr} (hi : held Γ i) (hj : held Γ j) (ei : σ[i]? = some (some (.ref p))) (ej : σ[j]? = some (some (.ref p))) : i = j := by
  rcases hi with ⟨d, h⟩ | ⟨d, h⟩
  · obtain ⟨q, e1, e2, e3, e4, e5⟩ := S.own i d h
    rw [e1] at ei
    cases ei
    rcases hj with ⟨e, g⟩ | ⟨e, g⟩
    · exact (e5 j e g ej).symm
    · obtain ⟨q, f1, f2, f3⟩ := S.par j e g
      rw [ej] at f1
      cases f1
      obtain ⟨o, z⟩ := S.bok.dom _ (S.bok.pin j _ f2)
      exact (e3 o z.1 z.2).elim
  · obtain ⟨q, e1, e2, e3⟩ := S.par i d h
    rw [e1] at ei
    cases ei
    rcases hj with ⟨e, g⟩ | ⟨e, g⟩
    · obtain ⟨q, f1, f2, f3, f4, f5⟩ := S.own j e g
      rw [ej] at f1
      cases f1
      obtain ⟨o, z⟩ := S.bok.dom _ (S.bok.pin i _ e2)
      exact (f3 o z.1 z.2).elim
    · obtain ⟨q, f1, f2, f3⟩ := S.par j e g
      rw [ej] at f1
      cases f1
      exact S.bok.inj i j _ e2 f2
theorem paOf_some {as : List Ar} {j : Nat} {p : Addr} (h : paOf σ as j = some p) : ∃ i, as[j]? = some (.slot i) ∧ σ[i]? = some (some (.ref p)) := by
  unfold paOf at h
  split at h
  · rename_i i e
    split at h
    · rename_i q e2
      cases h
      exact ⟨i, e, e2⟩
    · cases h
  · cases h
/-- the callee's frame -/
def callB (M : List Addr) (σ : L2.St) (H : Hp) (as : List Ar) : Bs := ⟨M, paOf σ as, H⟩
theorem callB_ok (S : SR K B M Γ σ H) {as : List Ar} {sls : List Sl} (hs : sRes Γ as = some sls) (nd : (slots as).Nodup) : (callB M σ H as).Ok where
  inj := fun j k p hj hk => by
    obtain ⟨i, a1, a2⟩ := paOf_some hj
    obtain ⟨i', b1, b2⟩ := paOf_some hk
    have := held_inj S (sRes_held hs i (slots_mem a1)) (sRes_held hs i' (slots_mem b1)) a2 b2
    subst this
    exact slots_inj nd a1 b1
  pin := fun j p hj => by
    obtain ⟨i, a1, a2⟩ := paOf_some hj
    obtain ⟨q, d, b1, b2, _⟩ := held_at S (sRes_held hs i (slots_mem a1))
    rw [a2] at b1
    cases b1
    exact b2
  dom := S.dom
/-- what the resolved arguments are -/
theorem sRes_at (S : SR K B M Γ σ H) : ∀ {as : List Ar} {sls : List Sl} {vs : List V}, sRes Γ as = some sls → ArgV K M σ H vs as → sls.length = as.length ∧ vs.length = as.length ∧ ∀ (j : Nat) (s : Sl), sls[j]? = some s →
    (∃ d v, s = .dat d ∧ as[j]? = some (.dat d) ∧ vs[j]? = some v ∧ Rep K (hid H M) v d) ∨ ∃ d i p, s = .par d ∧ as[j]? = some (.slot i) ∧ vs[j]? = some (.ref p) ∧ σ[i]? = some (some (.ref p)) ∧ OwnAt K (hid H M) H p d
  | [], sls, [], e, _ => by
    cases e
    exact ⟨rfl, rfl, fun j s h => by simp at h⟩
  | .dat d :: as, sls, v :: vs, e, ⟨r, av⟩ => by
    unfold sRes at e
    cases q : sRes Γ as with
    | none => rw [q] at e; cases e
    | some l =>
      rw [q] at e
      cases e
      obtain ⟨h1, h2, h3⟩ := sRes_at S q av
      refine ⟨congrArg Nat.succ h1, congrArg Nat.succ h2, fun j s h => ?_⟩
      cases j with
      | zero =>
        simp at h
        subst h
        exact .inl ⟨d, v, rfl, rfl, rfl, r⟩
      | succ j => exact h3 j s (by simpa using h)
  | .slot i :: as, sls, v :: vs, e, ⟨r, av⟩ => by
    unfold sRes at e
    cases q : sRes Γ as with
    | none =>
      rw [q] at e
      split at e <;> cases e
    | some l =>
      rw [q] at e
      obtain ⟨h1, h2, h3⟩ := sRes_at S q av
      split at e
      · rename_i d hd
        cases e
        obtain ⟨p, e1, e2, e3, e4, _⟩ := S.own i d hd
        refine ⟨congrArg Nat.succ h1, congrArg Nat.succ h2, fun j s h => ?_⟩
        cases j with
        | zero =>
          simp at h
          subst h
          rw [r] at e1
          cases e1
          exact .inr ⟨d, i, p, rfl, rfl, rfl, r, e4⟩
        | succ j => exact h3 j s (by simpa using h)
      · rename_i d hd
        cases e
        obtain ⟨p, e1, e2, e3⟩ := S.par i d hd
        refine ⟨congrArg Nat.succ h1, congrArg Nat.succ h2, fun j s h => ?_⟩
        cases j with
        | zero =>
          simp at h
          subst h
          rw [r] at e1
          cases e1
          exact .inr ⟨d, i, p, rfl, rfl, rfl, r, e3⟩
        | succ j => exact h3 j s (by simpa using h)
      · cases e
  | [], _, _ :: _, _, h => h.elim
  | .dat _ :: _, _, [], _, h => h.elim
  | .slot _ :: _, _, [], _, h => h.elim
theorem map_some_at {α : Type} {l : List α} {j : Nat} {x : α} (h : (l.map some)[j]? = some (some x)) : l[j]? = some x := by
  rw [List.getElem?_map] at h
  cases e : l[j]? with
  | none => rw [e] at h; cases h
  | some y => rw [e] at h; cases h; rfl
theorem at_map_some {α : Type} {l : List α} {j : Nat} {x : α} (h : l[j]? = some x) : (l.map some)[j]? = some (some x) := by
  rw [List.getElem?_map, h]; rfl
theorem call_entry (S : SR K B M Γ σ H) {as : List Ar} {sls : List Sl} {vs : List V} (hs : sRes Γ as = some sls) (nd : (slots as).Nodup) (av : ArgV K M σ H vs as) : SR K (callB M σ H as) M (sls.map some) (vs.map some) H ∧ ∀ (i : Nat) (d : D), sls[i]? ≠ some (.own d) := by
  obtain ⟨h1, h2, h3⟩ := sRes_at S hs av
  refine ⟨?_, fun i d h => ?_⟩
  · exact {
      dat := fun j d h => by
        rcases h3 j _ (map_some_at h) with ⟨d', v, e, _, e2, r⟩ | ⟨d', i, p, e, _⟩
        · cases e
          exact ⟨v, at_map_some e2, r⟩
        · cases e
      own := fun j d h => by
        rcases h3 j _ (map_some_at h) with ⟨d', v, e, _⟩ | ⟨d', i, p, e, _⟩ <;> cases e
      par := fun j d h => by
        rcases h3 j _ (map_some_at h) with ⟨d', v, e, _⟩ | ⟨d', i, p, e, e1, e2, e3, r⟩
        · cases e
        · cases e
          refine ⟨p, at_map_some e2, ?_, r⟩
          show paOf σ as j = some p
          unfold paOf
          rw [e1]
          simp only [e3]
      sub := fun a h => h
      dom := S.dom
      frm := fun a o h _ _ => h
      len := by rw [List.length_map, List.length_map, h1, h2]
      bok := callB_ok S hs nd
      tab := S.tab }
  · rcases h3 i _ h with ⟨d', v, e, _⟩ | ⟨d', i, p, e, _⟩ <;> cases e
/-- the contents that the callee left -/
theorem pars_zip {Hh H' : Hp} {B' : Bs} : ∀ {as : List Ar} {sls : List Sl} {ps : List D} {n : Nat}, sRes Γ as = some sls → (∀ j, B'.pa (n + j) = paOf σ as j) → ParsAt K Hh B' H' n sls ps →
    (∀ i d, (i, d) ∈ zipS as ps → ∃ p, σ[i]? = some (some (.ref p)) ∧ OwnAt K Hh H' p d) ∧ ∀ i ∈ slots as, ∃ d, (i, d) ∈ zipS as ps
  | [], sls, ps, n, e, hb, h => ⟨fun i d z => (nomatch z), fun i z => (nomatch z)⟩
  | .dat d :: as, sls, ps, n, e, hb, h => by
    unfold sRes at e
    cases q : sRes Γ as with
    | none => rw [q] at e; cases e
    | some l =>
      rw [q] at e
      cases e
      have hb' : ∀ j, B'.pa (n + 1 + j) = paOf σ as j := fun j => by
        have := hb (j + 1)
        rw [show n + (j + 1) = n + 1 + j by omega] at this
        exact this
      have h' : ParsAt K Hh B' H' (n + 1) l ps := by
        cases ps <;> exact h
      exact pars_zip (as := as) q hb' h'
  | .slot i :: as, sls, ps, n, e, hb, h => by
    unfold sRes at e
    cases q : sRes Γ as with
    | none =>
      rw [q] at e
      split at e <;> cases e
    | some l =>
      rw [q] at e
      have hb' : ∀ j, B'.pa (n + 1 + j) = paOf σ as j := fun j => by
        have := hb (j + 1)
        rw [show n + (j + 1) = n + 1 + j by omega] at this
        exact this
      have fin : ∀ d0, ParsAt K Hh B' H' n (.par d0 :: l) ps → (∀ k d, (k, d) ∈ zipS (.slot i :: as) ps → ∃ p, σ[k]? = some (some (.ref p)) ∧ OwnAt K Hh H' p d) ∧ ∀ k ∈ slots (.slot i :: as), ∃ d, (k, d) ∈ zipS (.slot i :: as) ps := fun d0 h => by
        cases ps with
        | nil => exact h.elim
        | cons d ps =>
          obtain ⟨⟨p, e1, e2⟩, h⟩ := h
          obtain ⟨r1, r2⟩ := pars_zip (as := as) q hb' h
          have e0 : paOf σ (.slot i :: as) 0 = some p := by rw [← hb 0]; exact e1
          obtain ⟨i', e3, e4⟩ := paOf_some e0
          simp at e3
          subst e3
          refine ⟨fun k d' z => ?_, fun k z => ?_⟩
          · rcases List.mem_cons.mp z with z | z
            · cases z
              exact ⟨p, e4, e2⟩
            · exact r1 k d' z
          · rcases List.mem_cons.mp z with z | z
            · subst z
              exact ⟨d, List.mem_cons_self ..⟩
            · obtain ⟨d', z⟩ := r2 k z
              exact ⟨d', List.mem_cons_of_mem _ z⟩
      split at e
      · cases e
        exact fin _ h
      · cases e
        exact fin _ h
      · cases e
theorem lookup_mem {l : List (Nat × D)} {i : Nat} {d : D} (h : l.lookup i = some d) : (i, d) ∈ l := by
  induction l with
  | nil => cases h
  | cons q l ih =>
    obtain ⟨k, e⟩ := q
    rw [List.lookup_cons] at h
    cases hk : i == k with
    | true =>
      simp only [hk] at h
      cases h
      rw [beq_iff_eq.mp hk]
      exact List.mem_cons_self ..
    | false =>
      simp only [hk] at h
      exact List.mem_cons_of_mem _ (ih h)
theorem mem_lookup {l : List (Nat × D)} {i : Nat} {d : D} (h : (i, d) ∈ l) : ∃ e, l.lookup i = some e := by
  induction l with
  | nil => cases h
  | cons q l ih =>
    obtain ⟨k, e⟩ := q
    rw [List.lookup_cons]
    cases hk : i == k with
    | true => exact ⟨e, rfl⟩
    | false =>
      simp only
      rcases List.mem_cons.mp h with h | h
      · cases h
        simp at hk
      · exact ih h
/-- the caller's state behind the call -/
theorem call_after (S : SR K B M Γ σ H) {as : List Ar} {sls : List Sl} {ps : List D} {H' : Hp} {M2 : List Addr} (hs : sRes Γ as = some sls) (nd : (slots as).Nodup) (fr : FrmP (callB M σ H as) H') (pz : ParsAt K (hid H' M2) (callB M σ H as) H' 0 sls ps)
    (sb : ∀ a ∈ M, a ∈ M2) (ex : Ex (hid H M) (hid H' M2)) (dm : ∀ a ∈ M2, a ∉ M → ∃ o, H' a = some o ∧ NT o) : SR K B M2 (putB (zipS as ps) 0 Γ) σ H' := by
  obtain ⟨z1, z2⟩ := pars_zip (σ := σ) (n := 0) hs (fun j => by rw [Nat.zero_add]; rfl) pz
  have keep : ∀ a o, H a = some o → NT o → (∀ i ∈ slots as, σ[i]? ≠ some (some (.ref a))) → H' a = some o := fun a o h t n => fr.1 a o h t fun j z => by
    obtain ⟨i, e1, e2⟩ := paOf_some (show paOf σ as j = some a from z)
    exact n i (slots_mem e1) e2
  have getP : ∀ (i : Nat) (s : Sl), (putB (zipS as ps) 0 Γ)[i]? = some (some s) → ∃ s0, Γ[i]? = some (some s0) ∧ putS ((zipS as ps).lookup i) (some s0) = some s := fun i s h => by
    rw [putB_get, Nat.zero_add] at h
    cases e : Γ[i]? with
    | none => rw [e] at h; cases h
    | some o =>
      rw [e] at h
      cases o with
      | none =>
        simp only [Option.map_some] at h
        cases q : (zipS as ps).lookup i <;> rw [q] at h <;> cases h
      | some s0 => exact ⟨s0, rfl, by simpa using h⟩
  have heldP : ∀ (i : Nat) (d : D), ((putB (zipS as ps) 0 Γ)[i]? = some (some (.own d)) ∨ (putB (zipS as ps) 0 Γ)[i]? = some (some (.par d))) → ∃ p, σ[i]? = some (some (.ref p)) ∧ OwnAt K (hid H' M2) H' p d := fun i d h => by
    have : ∃ s0 s, (s = .own d ∨ s = .par d) ∧ Γ[i]? = some (some s0) ∧ putS ((zipS as ps).lookup i) (some s0) = some s := by
      rcases h with h | h
      · obtain ⟨s0, e1, e2⟩ := getP i _ h
        exact ⟨s0, _, .inl rfl, e1, e2⟩
      · obtain ⟨s0, e1, e2⟩ := getP i _ h
        exact ⟨s0, _, .inr rfl, e1, e2⟩
    obtain ⟨s0, s, hs0, e1, e2⟩ := this
    have hh : held Γ i := by
      cases s0 with
      | dat d0 =>
        have : s = .dat d0 := by
          cases q : (zipS as ps).lookup i <;> rw [q] at e2 <;> exact (Option.some.inj e2).symm
        subst this
        rcases hs0 with z | z <;> cases z
      | own d0 => exact .inl ⟨d0, e1⟩
      | par d0 => exact .inr ⟨d0, e1⟩
    cases q : (zipS as ps).lookup i with
    | some d' =>
      rw [q] at e2
      obtain ⟨p, f1, f2⟩ := z1 i d' (lookup_mem q)
      have : d' = d := by
        cases s0 with
        | dat d0 => rcases hs0 with z | z <;> subst z <;> cases e2
        | own d0 => rcases hs0 with z | z <;> subst z <;> cases e2; rfl
        | par d0 => rcases hs0 with z | z <;> subst z <;> cases e2; rfl
      subst this
      exact ⟨p, f1, f2⟩
    | none =>
      rw [q] at e2
      have es : s0 = s := by cases s0 <;> exact Option.some.inj e2
      have ni : i ∉ slots as := fun z => by
        obtain ⟨d', z⟩ := z2 i z
        obtain ⟨e, z⟩ := mem_lookup z
        rw [q] at z; cases z
      obtain ⟨p, d', f1, f2, f3, f4⟩ := held_at S hh
      have : d' = d := by
        rw [e1, es] at f4
        rcases hs0 with z | z <;> subst z <;> rcases f4 with w | w <;> cases w <;> rfl
      subst this
      refine ⟨p, f1, f3.mono ex fun o z => keep p o z (f3.nt z) fun k hk ek => ?_⟩
      exact ni (held_inj S hh (sRes_held hs k hk) f1 ek ▸ hk)
  have kindP : ∀ (i : Nat) (d : D), ((putB (zipS as ps) 0 Γ)[i]? = some (some (.own d)) → ∃ d0, Γ[i]? = some (some (.own d0))) ∧ ((putB (zipS as ps) 0 Γ)[i]? = some (some (.par d)) → ∃ d0, Γ[i]? = some (some (.par d0))) := fun i d => by
    constructor <;> intro h <;> obtain ⟨s0, e1, e2⟩ := getP i _ h <;> cases s0 <;> cases q : (zipS as ps).lookup i <;> rw [q] at e2 <;> cases e2 <;> exact ⟨_, e1⟩
  exact {
    dat := fun i d h => by
      obtain ⟨s0, e1, e2⟩ := getP i _ h
      have : s0 = .dat d := by
        cases s0 <;> cases q : (zipS as ps).lookup i <;> rw [q] at e2 <;> cases e2 <;> rfl
      subst this
      obtain ⟨v, f1, f2⟩ := S.dat i d e1
      exact ⟨v, f1, f2.mono ex⟩
    own := fun i d h => by
      obtain ⟨d0, e1⟩ := (kindP i d).1 h
      obtain ⟨p, f1, f2, f3, f4, f5⟩ := S.own i d0 e1
      obtain ⟨p', g1, g2⟩ := heldP i d (.inl h)
      rw [f1] at g1
      cases g1
      exact ⟨p, f1, sb p f2, f3, g2, fun j e hj ej => by
        obtain ⟨e0, z⟩ := (kindP j e).1 hj
        exact f5 j e0 z ej⟩
    par := fun i d h => by
      obtain ⟨d0, e1⟩ := (kindP i d).2 h
      obtain ⟨p, f1, f2, f3⟩ := S.par i d0 e1
      obtain ⟨p', g1, g2⟩ := heldP i d (.inr h)
      rw [f1] at g1
      cases g1
      exact ⟨p, f1, f2, g2⟩
    sub := fun a h => sb a (S.sub a h)
    dom := fun a h => by
      by_cases hm : a ∈ M
      · obtain ⟨o, e, ht⟩ := S.dom a hm
        by_cases hz : ∃ i ∈ slots as, σ[i]? = some (some (.ref a))
        · obtain ⟨i, i1, i2⟩ := hz
          obtain ⟨d, i3⟩ := z2 i i1
          obtain ⟨p, j1, j2⟩ := z1 i d i3
          rw [i2] at j1
          cases j1
          obtain ⟨u, hu⟩ := j2.there
          exact ⟨u, hu, j2.nt hu⟩
        · exact ⟨o, keep a o e ht fun i hi z => hz ⟨i, hi, z⟩, ht⟩
      · exact dm a h hm
    frm := fun a o h t n => keep a o (S.frm a o h t n) t fun i hi z => by
      rcases sRes_held hs i hi with ⟨d, w⟩ | ⟨d, w⟩
      · obtain ⟨p, f1, f2, f3, _⟩ := S.own i d w
        rw [z] at f1
        cases f1
        exact f3 o h t
      · obtain ⟨p, f1, f2, _⟩ := S.par i d w
        rw [z] at f1
        cases f1
        exact n i f2
    len := by rw [putB_len]; exact S.len
    bok := S.bok
    tab := fr.2 }
/-- THE USE of a def's promise -/
theorem spE_use {F : Fn} {as : List Ar} {vs : List V} {Q : VK} {E : XK} (S : SR K B M Γ σ H) (av : ArgV K M σ H vs as) (h : match callD F as Γ with
    | .ok r Γ' => ∀ v H' M', Val K B M Γ' σ H M' H' v r → Q v H'
    | .exc c fs Γ' => Fail K (wx E) B σ c fs Γ'
    | .no => False) : spE K F vs H Q E := by
  unfold callD at h
  cases hs : sRes Γ as with
  | none => rw [hs] at h; exact h.elim
  | some sls =>
    rw [hs] at h
    simp only at h
    by_cases nd : (slots as).Nodup
    · rw [if_pos nd] at h
      obtain ⟨s1, s2⟩ := call_entry S hs nd av
      refine ⟨callB M σ H as, sls, rfl, s1, s2, ?_⟩
      have exM : ∀ {H'}, FrmP (callB M σ H as) H' → Ex (hid H M) (hid H' M) := fun {H'} fr => hid_kept fun a o na e t => fr.1 a o e t fun j z => na ((callB_ok S hs nd).pin j a z)
      cases hF : F sls with
      | no => rw [hF] at h; exact h
      | exc c fs ps =>
        rw [hF] at h
        intro d H' fr pz ea
        exact h d H' M (call_after S hs nd fr pz (fun _ z => z) (exM fr) (fun a z n => absurd z n)) ea
      | ok r ps =>
        rw [hF] at h
        intro v H' fr po
        cases r with
        | par d => exact po.elim
        | dat d =>
          obtain ⟨pz, rv⟩ := po
          exact h v H' M ⟨call_after S hs nd fr pz (fun _ z => z) (exM fr) (fun a z n => absurd z n), exM fr, rv⟩
        | own d =>
          obtain ⟨p, ev, h0, pz, ow⟩ := po
          have hp : Fre H p := h0
          have exP : Ex (hid H M) (hid H' (p :: M)) := fun a o z => by
            obtain ⟨na, e, t⟩ := hid_ofT z
            refine hid_at (fun q => ?_) (fr.1 a o e t fun j z => na ((callB_ok S hs nd).pin j a z)) t
            rcases List.mem_cons.mp q with q | q
            · subst q; exact hp o e t
            · exact na q
          have sP : SR K B (p :: M) (putB (zipS as ps) 0 Γ) σ H' := call_after S hs nd fr pz sub_cons exP fun a z n => by
            rcases List.mem_cons.mp z with z | z
            · subst z
              obtain ⟨u, hu⟩ := ow.there
              exact ⟨u, hu, ow.nt hu⟩
            · exact absurd z n
          have pz0 : ParsAt K (hid H' M) (callB M σ H as) H' 0 sls ps := by
            have go : ∀ (n : Nat) (l : List Sl) (qs : List D), ParsAt K (hid H' (p :: M)) (callB M σ H as) H' n l qs → ParsAt K (hid H' M) (callB M σ H as) H' n l qs := fun n l => by
              induction l generalizing n with
              | nil => intro qs z; cases qs <;> exact z
              | cons x l ih =>
                intro qs z
                cases x with
                | dat d => cases qs <;> exact ih (n + 1) _ z
                | own d => cases qs <;> exact z.elim
                | par d =>
                  cases qs with
                  | nil => exact z.elim
                  | cons q qs =>
                    obtain ⟨⟨p', z1, z2⟩, z3⟩ := z
                    exact ⟨⟨p', z1, z2.mono (hid_sub sub_cons) fun _ w => w⟩, ih (n + 1) _ z3⟩
            exact go 0 sls ps pz
          exact h v H' M ⟨p, ev, S.not_in hp, S.fresh hp, call_after S hs nd fr pz0 (fun _ z => z) (exM fr) (fun a z n => absurd z n), sP, exP, ow⟩
    · rw [if_neg nd] at h
      exact h.elim
end
end Dl
end
section
set_option maxHeartbeats 4000000
/-! Statements over data; the body of a def. -/
namespace Dl
variable [Tabl]
open PySem PySem.Spec PyProof.Rows L2 Tx He
open Evl (Ex)
inductive Fl where
  | nx (g : Gm) | rt (r : Sl) (g : Gm) | bk (g : Gm) | ct (g : Gm) | exc (c : Str) (fs : List (Str × D)) (g : Gm) | no
abbrev SM := Gm → Fl
def RetS (K : PySem.W.Frag) (B : Bs) (Γ' : Gm) (σ' : L2.St) (H' : Hp) (v : V) : Sl → Prop
  | .dat d => ∃ M', SR K B M' Γ' σ' H' ∧ Rep K (hid H' M') v d
  | .own d => ∃ M' p, v = .ref p ∧ p ∈ M' ∧ Fre B.H0 p ∧ SR K B M' Γ' σ' H' ∧ OwnAt K (hid H' M') H' p d
  | .par _ => False
def Fin (K : PySem.W.Frag) (W : WX) (B : Bs) (M : List Addr) (H : Hp) (D : Ends) : Fl → Prop
  | .nx Γ' => ∀ σ' H' M', SR K B M' Γ' σ' H' → Ex (hid H M) (hid H' M') → D.nx σ' H'
  | .rt r Γ' => ∀ v σ' H', RetS K B Γ' σ' H' v r → D.rt v H'
  | .bk Γ' => ∀ σ' H' M', SR K B M' Γ' σ' H' → Ex (hid H M) (hid H' M') → D.bk σ' H'
  | .ct Γ' => ∀ σ' H' M', SR K B M' Γ' σ' H' → Ex (hid H M) (hid H' M') → D.ct σ' H'
  | .exc c fs Γ' => ∀ σ', Fail K W B σ' c fs Γ'
  | .no => False
def tS (K : PySem.W.Frag) (W : WX) (g : SM) : TS := fun D σ H => ∃ B M Γ, SR K B M Γ σ H ∧ Fin K W B M H D (g Γ)
theorem PS.imp {X : Cx} {e : Stmt} {t t' : TS} (h : PS X e t) (k : ∀ D σ H, t' D σ H → t D σ H) : PS X e t' := ⟨fun pins s σ H Q I q => h.run pins s σ H Q I (k Q σ H q)⟩
theorem PSs.imp {X : Cx} {e : List Stmt} {t t' : TS} (h : PSs X e t) (k : ∀ D σ H, t' D σ H → t D σ H) : PSs X e t' := ⟨fun pins s σ H Q I q => h.run pins s σ H Q I (k Q σ H q)⟩
section
variable {K : PySem.W.Frag} {W : WX} {B : Bs} {M M1 : List Addr} {Γ : Gm} {σ : L2.St} {H H1 : Hp} {D D' : Ends}
theorem Fin.mono (e : Ex (hid H M) (hid H1 M1)) : ∀ {f : Fl}, Fin K W B M H D f → Fin K W B M1 H1 D f
  | .nx _, h => fun σ' H' M' s x => h σ' H' M' s (e.trans x)
  | .rt _ _, h => h
  | .bk _, h => fun σ' H' M' s x => h σ' H' M' s (e.trans x)
  | .ct _, h => fun σ' H' M' s x => h σ' H' M' s (e.trans x)
  | .exc _ _ _, h => h
/-- an expression ahead of a statement's end -/
def dThen {α : Type} (f : EM α) (k : α → SM) : SM := fun Γ => match f Γ with
  | .ok a Γ1 => k a Γ1
  | .exc c fs g => .exc c fs g
  | .no => .no
theorem fin_then {f : EM Sl} {k : Sl → SM} {P : VK} (S : SR K B M Γ σ H) (h : Fin K W B M H D (dThen f k Γ)) (hs : ∀ W B c fs g, (∀ σ', Fail K W B σ' c fs g) → Fail K W B σ c fs g)
    (kk : ∀ r Γ1 v H1 M1, f Γ = .ok r Γ1 → Val K B M Γ1 σ H M1 H1 v r → Fin K W B M H D (k r Γ1) → P v H1) : tD K W f σ H P := by
  refine ⟨B, M, Γ, S, ?_⟩
  unfold dThen at h
  cases e : f Γ with
  | no => rw [e] at h; exact h
  | exc c fs g => rw [e] at h; exact h σ
  | ok r Γ1 => rw [e] at h; exact fun v H1 M1 q => kk r Γ1 v H1 M1 e q h
end
def dNext : SM := .nx
def dSeq (g1 g2 : SM) : SM := fun Γ => match g1 Γ with
  | .nx Γ1 => g2 Γ1
  | r => r
def dExpr (f : EM Sl) : SM := dThen f fun _ Γ => .nx Γ
def dRet (f : EM Sl) : SM := dThen f fun r Γ => .rt r Γ
def dRetN : SM := fun Γ => .rt (.dat .non) Γ
def dSet (i : Nat) (f : EM Sl) : SM := dThen f fun r Γ => .nx (Γ.set i (some r))
def dIfS (t : EM Bool) (g1 g2 : SM) : SM := dThen t fun b => if b = true then g1 else g2
/-- return of a thing that the def alone holds -/
def dRetS (i : Nat) : SM := fun Γ => match Γ[i]? with
  | some (some (.own d)) => .rt (.own d) Γ
  | some (some (.dat d)) => .rt (.dat d) Γ
  | _ => .no
section
variable {X : Cx} {W : WX} {e : Expr} {st : Stmt} {sts : List Stmt} {f : EM Sl} {t : EM Bool} {g g1 g2 : SM} {pos : Pos}
theorem ds_nil : PSs X [] (tS X.K W dNext) := PSs.imp pss_nil fun D σ H ⟨B, M, Γ, S, h⟩ => h σ H M S (Evl.Ex.refl _)
theorem ds_cons (h1 : PS X st (tS X.K W g1)) (h2 : PSs X sts (tS X.K W g2)) : PSs X (st :: sts) (tS X.K W (dSeq g1 g2)) := by
  refine PSs.imp (pss_cons h1 h2) fun D σ H ⟨B, M, Γ, S, h⟩ => ⟨B, M, Γ, S, ?_⟩
  unfold dSeq at h
  cases e : g1 Γ with
  | nx Γ1 => rw [e] at h; exact fun σ' H' M' s x => ⟨B, M', Γ1, s, h.mono x⟩
  | rt r Γ1 => rw [e] at h; exact h
  | bk Γ1 => rw [e] at h; exact h
  | ct Γ1 => rw [e] at h; exact h
  | exc c fs g => rw [e] at h; exact h
  | no => rw [e] at h; exact h
theorem ds_one (h1 : PS X st (tS X.K W g1)) : PSs X [st] (tS X.K W g1) := pss_one h1
theorem ds_expr (he : PE X e (tD X.K W f)) (hs : swapsWith e none pos.line X.env = pure false := by rfl) : PS X (.Expr e pos) (tS X.K W (dExpr f)) := PS.imp (ps_expr he hs) fun D σ H ⟨B, M, Γ, S, h⟩ =>
  fin_then S h (fun _ _ _ _ _ z => z σ) fun r Γ1 v H1 M1 _ q z => z σ H1 M1 q.dat.1 q.dat.2.1
theorem Val.ret {K : PySem.W.Frag} {B : Bs} {M M1 : List Addr} {Γ1 : Gm} {σ : L2.St} {H H1 : Hp} {v : V} {r : Sl} (q : Val K B M Γ1 σ H M1 H1 v r) : RetS K B Γ1 σ H1 v r := by
  cases r with
  | dat d => exact ⟨M1, q.1, q.2.2⟩
  | par d => exact q
  | own d =>
    obtain ⟨p, e, h1, h2, s1, s2, ex, o⟩ := q
    exact ⟨p :: M1, p, e, List.mem_cons_self .., h2, s2, o⟩
theorem ds_ret (he : PE X e (tD X.K W f)) : PS X (.Return (some e) pos) (tS X.K W (dRet f)) := PS.imp (ps_ret he) fun D σ H ⟨B, M, Γ, S, h⟩ =>
  fin_then S h (fun _ _ _ _ _ z => z σ) fun r Γ1 v H1 M1 _ q z => z v σ H1 q.ret
theorem ds_retN : PS X (.Return none pos) (tS X.K W dRetN) := PS.imp ps_retN fun D σ H ⟨B, M, Γ, S, h⟩ => h .non σ H ⟨M, S, .non⟩
theorem ds_retS {i : Nat} {x : Str} {p : Pos} (hN : X.N[i]? = some x) (hv : Vis X.env.scope x) (hd : (x == ("__debug__" : Str)) = false := by decide) (hcd : (x == ("__classdict__" : Str)) = false := by decide) : PS X (.Return (some (.Name x p)) pos) (tS X.K W (dRetS i)) := by
  refine PS.imp (ps_ret (pe_var hN hv hd hcd)) fun D σ H ⟨B, M, Γ, S, h⟩ => ?_
  unfold dRetS at h
  cases hi : Γ[i]? with
  | none => rw [hi] at h; exact h.elim
  | some o => cases o with
    | none => rw [hi] at h; exact h.elim
    | some s => cases s with
      | par d => rw [hi] at h; exact h.elim
      | dat d =>
        rw [hi] at h
        obtain ⟨v, e1, e2⟩ := S.dat i d hi
        exact ⟨v, e1, h v σ H ⟨M, S, e2⟩⟩
      | own d =>
        rw [hi] at h
        obtain ⟨p, e1, e2, e3, e4, _⟩ := S.own i d hi
        exact ⟨_, e1, h _ σ H ⟨M, p, rfl, e2, e3, S, e4⟩⟩
theorem Val.set {K : PySem.W.Frag} {B : Bs} {M M1 : List Addr} {Γ1 : Gm} {σ : L2.St} {H H1 : Hp} {v : V} {r : Sl} (i : Nat) (q : Val K B M Γ1 σ H M1 H1 v r) : ∃ M2, SR K B M2 (Γ1.set i (some r)) (σ.set i (some v)) H1 ∧ Ex (hid H M) (hid H1 M2) := by
  cases r with
  | dat d => exact ⟨M1, q.1.setDat i q.2.2, q.2.1⟩
  | par d => exact q.elim
  | own d =>
    obtain ⟨p, e, h1, h2, s1, s2, ex, o⟩ := q
    subst e
    refine ⟨p :: M1, s2.setOwn i h1 (fun j e hj z => ?_) h2 o, ex⟩
    obtain ⟨p', f1, f2, _⟩ := s1.own j e hj
    rw [z] at f1
    cases f1
    exact h1 f2
theorem ds_set {i : Nat} {x : Str} {pos' : Pos} (hN : X.N.Nodup) (hi : X.N[i]? = some x) (hx : Loc X.env.scope x) (he : PE X e (tD X.K W f)) (hs : swapsWith e (some (.Name x pos')) pos.line X.env = pure false := by rfl) (hf : X.fn x = true ∨ X.env.scope.names.lookup x = some .local := by first | exact .inl rfl | exact .inr rfl | assumption) :
    PS X (.Assign [.Name x pos'] e pos) (tS X.K W (dSet i f)) := PS.imp (ps_set hN hi hx he hs hf) fun D σ H ⟨B, M, Γ, S, h⟩ =>
  fin_then S h (fun _ _ _ _ _ z => z σ) fun r Γ1 v H1 M1 _ q z => by
    obtain ⟨M2, s2, e2⟩ := q.set i
    exact z _ H1 M2 s2 e2
theorem ds_if {c : Expr} {b1 b2 : List Stmt} (hc : PT X c (tDT X.K W t)) (h1 : PSs X b1 (tS X.K W g1)) (h2 : PSs X b2 (tS X.K W g2)) : PS X (.If c b1 b2 pos) (tS X.K W (dIfS t g1 g2)) := by
  refine PS.imp (ps_if hc h1 h2) fun D σ H ⟨B, M, Γ, S, h⟩ => ⟨B, M, Γ, S, ?_⟩
  unfold dIfS dThen at h
  cases e : t Γ with
  | no => rw [e] at h; exact h
  | exc c fs g => rw [e] at h; exact h σ
  | ok b Γ1 =>
    rw [e] at h
    intro H1 M1 S1 e1
    cases b with
    | true => exact ⟨B, M1, Γ1, S1, h.mono e1⟩
    | false => exact ⟨B, M1, Γ1, S1, h.mono e1⟩
theorem ds_pass : PS X (.Pass pos) (tS X.K W dNext) := PS.imp ps_pass fun D σ H ⟨B, M, Γ, S, h⟩ => h σ H M S (Evl.Ex.refl _)
end
/-! ### the body of a def -/
def pars : List Sl → Gm → Option (List D)
  | [], _ => some []
  | .par _ :: as, some (.par d) :: Γ => (pars as Γ).map (d :: ·)
  | .dat _ :: as, _ :: Γ => pars as Γ
  | _, _ => none
def bodyF (n : Nat) (g : SM) : Fn := fun sls => match g (sls.map some ++ List.replicate (n - sls.length) none) with
  | .rt r Γ => (match pars sls Γ with | some ps => .ok r ps | none => .no)
  | .nx Γ => (match pars sls Γ with | some ps => .ok (.dat .non) ps | none => .no)
  | .exc c fs Γ => (match pars sls Γ with | some ps => .exc c fs ps | none => .no)
  | _ => .no
section
variable {K : PySem.W.Frag} {B : Bs} {M : List Addr} {σ : L2.St} {H : Hp}
theorem pars_at : ∀ {sls : List Sl} {Γ : Gm} {ps : List D} {n : Nat} {Hh : Hp}, (∀ (i : Nat) (d : D), Γ[i]? = some (some (.par d)) → ∃ p, B.pa (n + i) = some p ∧ OwnAt K Hh H p d) → pars sls Γ = some ps → ParsAt K Hh B H n sls ps
  | [], Γ, ps, n, Hh, h, e => by
    cases e
    exact trivial
  | .par d0 :: as, some (.par d) :: Γ, ps, n, Hh, h, e => by
    unfold pars at e
    cases q : pars as Γ with
    | none => rw [q] at e; cases e
    | some l =>
      rw [q] at e
      cases e
      exact ⟨h 0 d rfl, pars_at (fun i d hi => by
        obtain ⟨p, a, b⟩ := h (i + 1) d hi
        rw [show n + (i + 1) = n + 1 + i by omega] at a
        exact ⟨p, a, b⟩) q⟩
  | .dat d0 :: as, s :: Γ, ps, n, Hh, h, e => by
    have q : ParsAt K Hh B H (n + 1) as ps := pars_at (fun i d hi => by
        obtain ⟨p, a, b⟩ := h (i + 1) d hi
        rw [show n + (i + 1) = n + 1 + i by omega] at a
        exact ⟨p, a, b⟩) e
    cases ps <;> exact q
  | .own _ :: _, _, _, _, _, _, e => by cases e
  | .par _ :: _, [], _, _, _, _, e => by cases e
  | .par _ :: _, none :: _, _, _, _, _, e => by cases e
  | .par _ :: _, some (.dat _) :: _, _, _, _, _, e => by cases e
  | .par _ :: _, some (.own _) :: _, _, _, _, _, e => by cases e
  | .dat _ :: _, [], _, _, _, _, e => by cases e
theorem SR.pz {Γ : Gm} {sls : List Sl} {ps : List D} (S : SR K B M Γ σ H) (h : pars sls Γ = some ps) : ParsAt K (hid H M) B H 0 sls ps := pars_at (fun i d hi => by
  obtain ⟨p, e1, e2, e3⟩ := S.par i d hi
  exact ⟨p, by rw [Nat.zero_add]; exact e2, e3⟩) h
theorem ParsAt.mono {Hh Hh' : Hp} (e : Ex Hh Hh') : ∀ {sls : List Sl} {ps : List D} {n : Nat}, ParsAt K Hh B H n sls ps → ParsAt K Hh' B H n sls ps
  | [], [], _, h => h
  | .par _ :: _, _ :: _, _, ⟨⟨p, a, b⟩, h⟩ => ⟨⟨p, a, b.mono e fun _ z => z⟩, ParsAt.mono e h⟩
  | .dat _ :: as, ps, n, h => by
    have q : ParsAt K Hh B H (n + 1) as ps := by cases ps <;> exact h
    have r := ParsAt.mono e q
    cases ps <;> exact r
  | .own _ :: _, [], _, h => h.elim
  | .own _ :: _, _ :: _, _, h => h.elim
  | [], _ :: _, _, h => h.elim
  | .par _ :: _, [], _, h => h.elim
theorem RetS.post {Γ : Gm} {sls : List Sl} {ps : List D} {v : V} {r : Sl} (h : RetS K B Γ σ H v r) (hp : pars sls Γ = some ps) : FrmP B H ∧ Post K B sls H v ps r := by
  cases r with
  | par d => exact h.elim
  | dat d =>
    obtain ⟨M', S, r⟩ := h
    exact ⟨⟨S.frm, S.tab⟩, (S.pz hp).mono (hid_sub S.sub), r.mono (hid_sub S.sub)⟩
  | own d =>
    obtain ⟨M', p, e, hm, h0, S, o⟩ := h
    have sb : ∀ a, a ∈ p :: B.M0 → a ∈ M' := fun a z => by
      rcases List.mem_cons.mp z with z | z
      · subst z; exact hm
      · exact S.sub a z
    exact ⟨⟨S.frm, S.tab⟩, p, e, h0, (S.pz hp).mono (hid_sub sb), o.mono (hid_sub sb) fun _ z => z⟩
theorem ExcAt.mono {H H' : Hp} {d : Option Addr} {fs : List (Str × D)} (e : Ex H H') (h : ExcAt K H d fs) : ExcAt K H' d fs := by
  rcases h with h | ⟨x, vs, a, b, c⟩
  · exact .inl h
  · exact .inr ⟨x, vs, a, e _ _ b, c.mono e⟩
/-- from the body's reading to the promise -/
theorem body_spD {N : List Str} {g : SM} {vs : List V} {Q : VK} {E : XK} (h : spE K (bodyF N.length g) vs H Q E) : tS K (wx E) g { nx := fun _ H' => Q .non H', rt := Q } (L2.start N vs) H := by
  obtain ⟨B, sls, e0, S, no, h⟩ := h
  have hlen : vs.length = sls.length := by
    have := S.len
    simpa using this.symm
  have S' : SR K B B.M0 (sls.map some ++ List.replicate (N.length - sls.length) none) (L2.start N vs) H := by
    unfold L2.start
    rw [hlen]
    have up : ∀ (j : Nat) (s : Sl), (sls.map some ++ List.replicate (N.length - sls.length) (none : Option Sl))[j]? = some (some s) → (sls.map some)[j]? = some (some s) := fun j s z => by
      rw [List.getElem?_append] at z
      split at z
      · exact z
      · rw [List.getElem?_replicate] at z
        split at z <;> cases z
    have dn : ∀ (j : Nat) (v : V), (vs.map some)[j]? = some (some v) → (vs.map some ++ List.replicate (N.length - sls.length) (none : Option V))[j]? = some (some v) := fun j v z => by
      rw [List.getElem?_append_left]
      · exact z
      · exact (List.getElem?_eq_some_iff.mp z).1
    exact {
      dat := fun i d z => let ⟨v, a, b⟩ := S.dat i d (up i _ z); ⟨v, dn i v a, b⟩
      own := fun i d z => absurd (map_some_at (up i _ z)) (no i d)
      par := fun i d z => let ⟨p, a, b, c⟩ := S.par i d (up i _ z); ⟨p, dn i _ a, b, c⟩
      sub := S.sub
      dom := S.dom
      frm := S.frm
      len := by simp [hlen]
      bok := S.bok
      tab := S.tab }
  refine ⟨B, B.M0, _, S', ?_⟩
  unfold bodyF at h
  split at h <;> rename_i q
  · rename_i r ps
    split at q
    · rename_i r' Γ' eg
      rw [eg]
      cases hp : pars sls Γ' with
      | none => rw [hp] at q; cases q
      | some ps' =>
        rw [hp] at q
        cases q
        exact fun v σ' H' z => h v H' (z.post hp).1 (z.post hp).2
    · rename_i Γ' eg
      rw [eg]
      cases hp : pars sls Γ' with
      | none => rw [hp] at q; cases q
      | some ps' =>
        rw [hp] at q
        cases q
        intro σ' H' M' S2 _
        have z : RetS K B Γ' σ' H' .non (.dat .non) := ⟨M', S2, .non⟩
        exact h .non H' (z.post hp).1 (z.post hp).2
    · rename_i c fs Γ' eg
      cases hp : pars sls Γ' with
      | none => rw [hp] at q; cases q
      | some ps' => rw [hp] at q; cases q
    · cases q
  · rename_i c fs ps
    split at q
    · rename_i r' Γ' eg
      cases hp : pars sls Γ' with
      | none => rw [hp] at q; cases q
      | some ps' => rw [hp] at q; cases q
    · rename_i Γ' eg
      cases hp : pars sls Γ' with
      | none => rw [hp] at q; cases q
      | some ps' => rw [hp] at q; cases q
    · rename_i c' fs' Γ' eg
      rw [eg]
      cases hp : pars sls Γ' with
      | none => rw [hp] at q; cases q
      | some ps' =>
        rw [hp] at q
        cases q
        intro σ' d H' M' S2 ea
        exact h d H' ⟨S2.frm, S2.tab⟩ ((S2.pz hp).mono (hid_sub S2.sub)) (ea.mono (hid_sub S2.sub))
    · cases q
  · exact h.elim
end
section
variable {P : Program} {w : World} {K : PySem.W.Frag} {mg : Str → Option Value} {base : Heap} {x qual : Str} {params : Arguments} {body : List Stmt} {scope : Scope} {dvs : List V} {kws : List (Str × V)} {f : Addr} {fd : FuncData}
theorem ok_D {N ps : List Str} {k : Nat} {g : SM} (F : FunD K x qual params body scope dvs kws f fd) (S : FnScope N ps scope)
    (hbody : ∀ (cdv : Value) (A : Around) (outer : List Env) (s : Shared) (H : Hp) (E : XK), Room k (A.deeper (envOfC qual scope s.heap.objs.size f cdv)) → Takes (cxOf (CX P w) P w K mg base N qual scope f cdv A outer s H E) (wx E) →
      PSs (cxOf (CX P w) P w K mg base N qual scope f cdv A outer s H E) body (tS K (wx E) g)) : FnOk P w K mg base (CX P w) (k + 1) f fd ps (spD K ps.length (bodyF N.length g)) :=
  F.ok S (fun _ _ _ _ h => h.1) fun cdv A outer s H vs Q E hr hsp => ⟨_, hbody cdv A outer s H E hr (takes_of rfl rfl rfl rfl), body_spD hsp.2⟩
end
end Dl
end
section
set_option maxHeartbeats 4000000
/-! Calls over data: defs, methods, new instances, fields, properties. -/
namespace Dl
variable [Tabl]
open PySem PySem.Spec PyProof.Rows L2 Tx He
open Evl (Ex)
/-- how positional arguments become parameters: as they are, with defaults, the rest as a tuple -/
def arP (n : Nat) (F : Fn) : Fn := fun sls => if sls.length = n then F sls else .no
def arD (n : Nat) (dds : List D) (F : Fn) : Fn := fun sls => if sls.length + dds.length = n then F (sls ++ dds.map Sl.dat) else .no
def datsS : List Sl → Option (List D)
  | [] => some []
  | .dat d :: as => (datsS as).map (d :: ·)
  | _ :: _ => none
def arS (m : Nat) (F : Fn) : Fn := fun sls => if m ≤ sls.length then (match datsS (sls.drop m) with
  | some ds => if ds.length ≤ sizeLine then F (sls.take m ++ [.dat (.tup ds)]) else .no
  | none => .no) else .no
abbrev FnE (P : Program) (w : World) (K : PySem.W.Frag) (mg : Str → Option Value) (base : Heap) (k : Nat) (f : Addr) (F : Fn) : Prop := FnR P w K mg base (L2.CX P w) k f (spE K F)
section
variable {K : PySem.W.Frag} {B : Bs} {H : Hp}
theorem ParsAt.dats {Hh : Hp} : ∀ {sls : List Sl} {ps : List D} {n : Nat} {ds : List D}, ParsAt K Hh B H n (sls ++ ds.map Sl.dat) ps ↔ ParsAt K Hh B H n sls ps
  | [], [], n, [] => Iff.rfl
  | [], _ :: _, n, [] => Iff.rfl
  | [], ps, n, d :: ds => by
    have h := ParsAt.dats (Hh := Hh) (sls := []) (ps := ps) (n := n + 1) (ds := ds)
    have e : ParsAt K Hh B H n ([] ++ (d :: ds).map Sl.dat) ps ↔ ParsAt K Hh B H (n + 1) ([] ++ ds.map Sl.dat) ps := by cases ps <;> exact Iff.rfl
    rw [e, h]
    cases ps <;> exact Iff.rfl
  | .dat d :: sls, ps, n, ds => by
    have h := ParsAt.dats (Hh := Hh) (sls := sls) (ps := ps) (n := n + 1) (ds := ds)
    have e : ParsAt K Hh B H n (.dat d :: sls ++ ds.map Sl.dat) ps ↔ ParsAt K Hh B H (n + 1) (sls ++ ds.map Sl.dat) ps := by cases ps <;> exact Iff.rfl
    have e2 : ParsAt K Hh B H n (.dat d :: sls) ps ↔ ParsAt K Hh B H (n + 1) sls ps := by cases ps <;> exact Iff.rfl
    rw [e, e2, h]
  | .own d :: sls, ps, n, ds => by cases ps <;> exact Iff.rfl
  | .par d :: sls, [], n, ds => Iff.rfl
  | .par d :: sls, p :: ps, n, ds => by
    have h := ParsAt.dats (Hh := Hh) (sls := sls) (ps := ps) (n := n + 1) (ds := ds)
    exact ⟨fun z => ⟨z.1, h.mp z.2⟩, fun z => ⟨z.1, h.mpr z.2⟩⟩
theorem Post.dats {sls : List Sl} {ds : List D} {H' : Hp} {v : V} {ps : List D} {r : Sl} (h : Post K B (sls ++ ds.map Sl.dat) H' v ps r) : Post K B sls H' v ps r := by
  cases r with
  | par d => exact h
  | dat d => exact ⟨ParsAt.dats.mp h.1, h.2⟩
  | own d =>
    obtain ⟨p, a, b, c, e⟩ := h
    exact ⟨p, a, b, ParsAt.dats.mp c, e⟩
theorem Post.undats {sls : List Sl} {ds : List D} {H' : Hp} {v : V} {ps : List D} {r : Sl} (h : Post K B sls H' v ps r) : Post K B (sls ++ ds.map Sl.dat) H' v ps r := by
  cases r with
  | par d => exact h
  | dat d => exact ⟨ParsAt.dats.mpr h.1, h.2⟩
  | own d =>
    obtain ⟨p, a, b, c, e⟩ := h
    exact ⟨p, a, b, ParsAt.dats.mpr c, e⟩
theorem at_app_l {α : Type} {l m : List α} {j : Nat} {x : α} (h : l[j]? = some x) : (l ++ m)[j]? = some x := by
  rw [List.getElem?_append_left (List.getElem?_eq_some_iff.mp h).1]
  exact h
/-- more data behind -/
theorem SR.more {M : List Addr} {sls : List Sl} {vs us : List V} {ds : List D} (S : SR K B M (sls.map some) (vs.map some) H) (no : ∀ (i : Nat) (d : D), sls[i]? ≠ some (.own d)) (r : Reps K (hid H M) us ds) : SR K B M ((sls ++ ds.map Sl.dat).map some) ((vs ++ us).map some) H ∧ ∀ (i : Nat) (d : D), (sls ++ ds.map Sl.dat)[i]? ≠ some (.own d) := by
  have hl : sls.length = vs.length := by simpa using S.len
  have cases1 : ∀ (j : Nat) (s : Sl), (sls ++ ds.map Sl.dat)[j]? = some s → sls[j]? = some s ∨ ∃ d v, s = .dat d ∧ (vs ++ us)[j]? = some v ∧ Rep K (hid H M) v d := fun j s h => by
    rw [List.getElem?_append] at h
    split at h
    · exact .inl h
    · rename_i hj
      rw [List.getElem?_map] at h
      cases e : ds[j - sls.length]? with
      | none => rw [e] at h; cases h
      | some d =>
        rw [e] at h
        cases h
        obtain ⟨x, e1, e2⟩ := r.at e
        refine .inr ⟨d, x, rfl, ?_, e2⟩
        rw [List.getElem?_append_right (by omega), ← hl]
        exact e1
  refine ⟨?_, fun i d h => ?_⟩
  · exact {
      dat := fun j d h => by
        rcases cases1 j _ (map_some_at h) with z | ⟨d', v, e, e2, r⟩
        · obtain ⟨v, e1, e2⟩ := S.dat j d (at_map_some z)
          exact ⟨v, at_map_some (at_app_l (map_some_at e1)), e2⟩
        · cases e
          exact ⟨v, at_map_some e2, r⟩
      own := fun j d h => by
        rcases cases1 j _ (map_some_at h) with z | ⟨d', v, e, e2, r⟩
        · exact absurd z (no j d)
        · cases e
      par := fun j d h => by
        rcases cases1 j _ (map_some_at h) with z | ⟨d', v, e, e2, r⟩
        · obtain ⟨p, e1, e2, e3⟩ := S.par j d (at_map_some z)
          exact ⟨p, at_map_some (at_app_l (map_some_at e1)), e2, e3⟩
        · cases e
      sub := S.sub
      dom := S.dom
      frm := S.frm
      len := by
        have := r.length
        simp only [List.length_map, List.length_append]
        omega
      bok := S.bok
      tab := S.tab }
  · rcases cases1 i _ h with z | ⟨d', v, e, _⟩
    · exact no i d z
    · cases e
theorem spE_more {F : Fn} {vs us : List V} {ds : List D} {Q : VK} {E : XK} (r : ∀ H, Reps K H us ds) (h : spE K (fun sls => F (sls ++ ds.map Sl.dat)) vs H Q E) : spE K F (vs ++ us) H Q E := by
  obtain ⟨B, sls, e0, S, no, h⟩ := h
  obtain ⟨S2, no2⟩ := S.more no (r _)
  refine ⟨B, sls ++ ds.map Sl.dat, e0, S2, no2, ?_⟩
  dsimp only at h
  split
  · rename_i r ps e
    rw [e] at h
    exact fun v H' fr po => h v H' fr po.dats
  · rename_i c fs ps e
    rw [e] at h
    exact fun d H' fr pz ea => h d H' fr (ParsAt.dats.mp pz) ea
  · rename_i e
    rw [e] at h
    exact h
end
section
variable {P : Program} {w : World} {K : PySem.W.Frag} {mg : Str → Option Value} {base : Heap} {k : Nat} {f : Addr} {fd : FuncData} {ps : List Str} {F : Fn}
theorem spE_len {H : Hp} {n : Nat} {vs : List V} {Q : VK} {E : XK} {F : Fn} {g : List Sl → Bool} (h : spE K (fun sls => if g sls = true then F sls else .no) vs H Q E) : ∃ sls : List Sl, sls.length = vs.length ∧ g sls = true := by
  obtain ⟨B, sls, e0, S, no, h⟩ := h
  refine ⟨sls, by simpa using S.len, ?_⟩
  cases e : g sls with
  | true => rfl
  | false => simp [e] at h
theorem fnE_ok (h : FnOk P w K mg base (L2.CX P w) k f fd ps (spD K ps.length F)) (hb : Binds K fd ps []) : FnE P w K mg base k f (arP ps.length F) := FnR.imp (h.raw hb .nil) fun vs H Q E q => by
  rw [List.append_nil]
  obtain ⟨B, sls, e0, S, no, q⟩ := q
  have hl : sls.length = vs.length := by simpa using S.len
  unfold arP at q
  by_cases e : sls.length = ps.length
  · rw [if_pos e] at q
    exact ⟨by omega, B, sls, e0, S, no, q⟩
  · rw [if_neg e] at q
    exact q.elim
theorem fnE_dfl {ds : List Value} {dvs : List V} {dds : List D} (h : FnOk P w K mg base (L2.CX P w) k f fd ps (spD K ps.length F)) (hb : Binds K fd ps ds) (hd : Vals dvs ds) (r : ∀ H, Reps K H dvs dds) : FnE P w K mg base k f (arD ps.length dds F) := FnR.imp (h.raw hb hd) fun vs H Q E q => by
  have hr := (r H).length
  have q' : ∃ B sls, sls.length + dds.length = ps.length ∧ B.H0 = H ∧ SR K B B.M0 (sls.map some) (vs.map some) H ∧ (∀ (i : Nat) (d : D), sls[i]? ≠ some (.own d)) ∧ match F (sls ++ dds.map Sl.dat) with
      | .ok r ps => ∀ v H', FrmP B H' → Post K B sls H' v ps r → Q v H'
      | .exc c fs ps => ∀ d H', FrmP B H' → ParsAt K (hid H' B.M0) B H' 0 sls ps → ExcAt K (hid H' B.M0) d fs → E (.ref (ga K c)) d H'
      | .no => False := by
    obtain ⟨B, sls, e0, S, no, q⟩ := q
    unfold arD at q
    by_cases e : sls.length + dds.length = ps.length
    · rw [if_pos e] at q
      exact ⟨B, sls, e, e0, S, no, q⟩
    · rw [if_neg e] at q
      exact q.elim
  obtain ⟨B, sls, e, e0, S, no, q⟩ := q'
  have hl : sls.length = vs.length := by simpa using S.len
  refine ⟨by rw [List.length_append]; omega, ?_⟩
  exact spE_more (F := F) r ⟨B, sls, e0, S, no, q⟩
theorem datsS_reps {B : Bs} {M : List Addr} {H : Hp} : ∀ {sls : List Sl} {vs : List V} {ds : List D}, SR K B M (sls.map some) (vs.map some) H → datsS sls = some ds → Reps K (hid H M) vs ds ∧ sls = ds.map Sl.dat := fun {sls vs ds} S e => by
  have gen : ∀ (n : Nat) (sls : List Sl) (vs : List V) (ds : List D), sls.length = vs.length → (∀ (j : Nat) (d : D), sls[j]? = some (.dat d) → ∃ v, vs[j]? = some v ∧ Rep K (hid H M) v d) → datsS sls = some ds → Reps K (hid H M) vs ds ∧ sls = ds.map Sl.dat := fun n sls => by
    induction sls with
    | nil =>
      intro vs ds hl _ e
      cases e
      cases vs with
      | nil => exact ⟨.nil, rfl⟩
      | cons v vs => cases hl
    | cons s sls ih =>
      intro vs ds hl h e
      cases vs with
      | nil => cases hl
      | cons v vs =>
        cases s with
        | own d => cases e
        | par d => cases e
        | dat d =>
          unfold datsS at e
          cases q : datsS sls with
          | none => rw [q] at e; cases e
          | some l =>
            rw [q] at e
            cases e
            obtain ⟨r1, r2⟩ := ih vs l (Nat.succ.inj hl) (fun j d' hj => h (j + 1) d' hj) q
            obtain ⟨v', e1, e2⟩ := h 0 d rfl
            cases e1
            exact ⟨.cons e2 r1, by rw [r2]; rfl⟩
  exact gen 0 sls vs ds (by simpa using S.len) (fun j d hj => by
    obtain ⟨v, e1, e2⟩ := S.dat j d (at_map_some hj)
    exact ⟨v, map_some_at e1, e2⟩) e
theorem SR.take {B : Bs} {M : List Addr} {H : Hp} {sls : List Sl} {vs : List V} (m : Nat) (S : SR K B M (sls.map some) (vs.map some) H) : SR K B M ((sls.take m).map some) ((vs.take m).map some) H := by
  have up : ∀ {α : Type} {l : List α} {j : Nat} {x : α}, (l.take m)[j]? = some x → j < m ∧ l[j]? = some x := fun {α l j x} h => by
    rw [List.getElem?_take] at h
    split at h
    · rename_i hj
      exact ⟨hj, h⟩
    · cases h
  have dn : ∀ {α : Type} {l : List α} {j : Nat} {x : α}, j < m → l[j]? = some x → (l.take m)[j]? = some x := fun {α l j x} hj h => by
    rw [List.getElem?_take, if_pos hj]
    exact h
  exact {
    dat := fun j d h => by
      obtain ⟨hj, h⟩ := up (map_some_at h)
      obtain ⟨v, e1, e2⟩ := S.dat j d (at_map_some h)
      exact ⟨v, at_map_some (dn hj (map_some_at e1)), e2⟩
    own := fun j d h => by
      obtain ⟨hj, h⟩ := up (map_some_at h)
      obtain ⟨p, e1, e2, e3, e4, e5⟩ := S.own j d (at_map_some h)
      refine ⟨p, at_map_some (dn hj (map_some_at e1)), e2, e3, e4, fun j' e h' hs => ?_⟩
      obtain ⟨_, h'⟩ := up (map_some_at h')
      obtain ⟨_, hs⟩ := up (map_some_at hs)
      exact e5 j' e (at_map_some h') (at_map_some hs)
    par := fun j d h => by
      obtain ⟨hj, h⟩ := up (map_some_at h)
      obtain ⟨p, e1, e2, e3⟩ := S.par j d (at_map_some h)
      exact ⟨p, at_map_some (dn hj (map_some_at e1)), e2, e3⟩
    sub := S.sub
    dom := S.dom
    frm := S.frm
    len := by
      have := S.len
      simp only [List.length_map, List.length_take] at this ⊢
      omega
    bok := S.bok
    tab := S.tab }
theorem SR.drop {B : Bs} {M : List Addr} {H : Hp} {sls : List Sl} {vs : List V} (m : Nat) (S : SR K B M (sls.map some) (vs.map some) H) (dd : List D) (e : datsS (sls.drop m) = some dd) : Reps K (hid H M) (vs.drop m) dd ∧ sls.drop m = dd.map Sl.dat := by
  have gen : ∀ (sls : List Sl) (vs : List V) (ds : List D), sls.length = vs.length → (∀ (j : Nat) (d : D), sls[j]? = some (.dat d) → ∃ v, vs[j]? = some v ∧ Rep K (hid H M) v d) → datsS sls = some ds → Reps K (hid H M) vs ds ∧ sls = ds.map Sl.dat := fun sls => by
    induction sls with
    | nil =>
      intro vs ds hl _ e
      cases e
      cases vs with
      | nil => exact ⟨.nil, rfl⟩
      | cons v vs => cases hl
    | cons s sls ih =>
      intro vs ds hl h e
      cases vs with
      | nil => cases hl
      | cons v vs =>
        cases s with
        | own d => cases e
        | par d => cases e
        | dat d =>
          unfold datsS at e
          cases q : datsS sls with
          | none => rw [q] at e; cases e
          | some l =>
            rw [q] at e
            cases e
            obtain ⟨r1, r2⟩ := ih vs l (Nat.succ.inj hl) (fun j d' hj => h (j + 1) d' hj) q
            obtain ⟨v', e1, e2⟩ := h 0 d rfl
            cases e1
            exact ⟨.cons e2 r1, by rw [r2]; rfl⟩
  have hl : sls.length = vs.length := by simpa using S.len
  refine gen _ _ _ (by rw [List.length_drop, List.length_drop, hl]) (fun j d hj => ?_) e
  rw [List.getElem?_drop] at hj
  obtain ⟨v, e1, e2⟩ := S.dat _ d (at_map_some hj)
  refine ⟨v, ?_, e2⟩
  rw [List.getElem?_drop]
  exact map_some_at e1
/-- the rest as a new tuple -/
theorem spE_star {F : Fn} {m : Nat} {vs : List V} {H : Hp} {Q : VK} {E : XK} (h : spE K (arS m F) vs H Q E) : ∃ ws rest, vs = ws ++ rest ∧ ws.length = m ∧ rest.length ≤ sizeLine ∧ ∀ p, H p = none → spD K (m + 1) F (ws ++ [V.ref p]) (upd H p (.tup rest)) Q E := by
  obtain ⟨B, sls, e0, S, no, h⟩ := h
  unfold arS at h
  by_cases hm : m ≤ sls.length
  · rw [if_pos hm] at h
    cases hd : datsS (sls.drop m) with
    | none => rw [hd] at h; exact h.elim
    | some ds =>
      rw [hd] at h
      dsimp only at h
      by_cases hz : ds.length ≤ sizeLine
      · rw [if_pos hz] at h
        obtain ⟨rs, es⟩ := S.drop m ds hd
        have hl : sls.length = vs.length := by simpa using S.len
        have tl : (vs.take m).length = m := by rw [List.length_take]; omega
        refine ⟨vs.take m, vs.drop m, (List.take_append_drop m vs).symm, tl, by rw [rs.length]; exact hz, fun p hp => ⟨by rw [List.length_append, tl]; rfl, ?_⟩⟩
        have hp0 : B.H0 p = none := by rw [e0]; exact hp
        have S1 := (S.take m).ext (Evl.Ex.new (o := .tup (vs.drop m)) hp)
        have rt : Reps K (hid (upd H p (.tup (vs.drop m))) B.M0) [V.ref p] [.tup ds] := .cons (new_tup S.dm hp rs).2 .nil
        have S1' : SR K { B with H0 := upd H p (.tup (vs.drop m)) } B.M0 ((sls.take m).map some) ((vs.take m).map some) (upd H p (.tup (vs.drop m))) := {
          dat := S1.dat
          own := fun j d z => absurd (List.getElem?_take .. ▸ map_some_at z : _) (by
            intro q
            split at q
            · exact no j d q
            · cases q)
          par := S1.par
          sub := S1.sub
          dom := S1.dom
          frm := fun a o z _ _ => z
          len := S1.len
          bok := ⟨S.bok.inj, S.bok.pin, fun a z => by
            obtain ⟨o, q, w⟩ := S.bok.dom a z
            refine ⟨o, ?_, w⟩
            show upd H p (.tup (vs.drop m)) a = some o
            rw [e0] at q
            exact Evl.Ex.new hp _ _ q⟩
          tab := S1.tab }
        have noT : ∀ (i : Nat) (d : D), (sls.take m)[i]? ≠ some (.own d) := fun i d z => by
          rw [List.getElem?_take] at z
          split at z
          · exact no i d z
          · cases z
        obtain ⟨S2, no2⟩ := S1'.more noT rt
        have frB : ∀ {H'}, FrmP { B with H0 := upd H p (.tup (vs.drop m)) } H' → FrmP B H' := fun {H'} fr => ⟨fun a o z t n => fr.1 a o (by
          show upd H p (.tup (vs.drop m)) a = some o
          rw [e0] at z
          exact Evl.Ex.new hp _ _ z) t n, fr.2⟩
        have toS : ∀ {H' : Hp} {Hh : Hp} {qs : List D}, ParsAt K Hh { B with H0 := upd H p (.tup (vs.drop m)) } H' 0 (sls.take m ++ [D.tup ds].map Sl.dat) qs → ParsAt K Hh B H' 0 sls qs := fun {H' Hh qs} z => by
          have z1 : ParsAt K Hh { B with H0 := upd H p (.tup (vs.drop m)) } H' 0 (sls.take m) qs := ParsAt.dats.mp z
          have z2 : ParsAt K Hh { B with H0 := upd H p (.tup (vs.drop m)) } H' 0 (sls.take m ++ ds.map Sl.dat) qs := ParsAt.dats.mpr z1
          rw [← es, List.take_append_drop] at z2
          have go : ∀ (n : Nat) (l : List Sl) (qs : List D), ParsAt K Hh { B with H0 := upd H p (.tup (vs.drop m)) } H' n l qs → ParsAt K Hh B H' n l qs := fun n l => by
            induction l generalizing n with
            | nil => intro qs z; cases qs <;> exact z
            | cons x l ih =>
              intro qs z
              cases x with
              | dat d => cases qs <;> exact ih (n + 1) _ z
              | own d => cases qs <;> exact z.elim
              | par d =>
                cases qs with
                | nil => exact z.elim
                | cons q qs => exact ⟨z.1, ih (n + 1) _ z.2⟩
          exact go 0 sls qs z2
        refine ⟨{ B with H0 := upd H p (.tup (vs.drop m)) }, sls.take m ++ [D.tup ds].map Sl.dat, rfl, S2, no2, ?_⟩
        show match F (sls.take m ++ [Sl.dat (.tup ds)]) with | .ok r ps => _ | .exc c fs ps => _ | .no => _
        split
        · rename_i r qs e
          rw [e] at h
          intro v H' fr po
          refine h v H' (frB fr) ?_
          cases r with
          | par d => exact po
          | dat d => exact ⟨toS po.1, po.2⟩
          | own d =>
            obtain ⟨q, a, b, c, e⟩ := po
            refine ⟨q, a, ?_, toS c, e⟩
            have b' : Fre (upd H p (.tup (vs.drop m))) q := b
            rw [e0]
            intro u hu
            exact b' u (Evl.Ex.new hp _ _ hu)
        · rename_i c fs qs e
          rw [e] at h
          exact fun d H' fr pz ea => h d H' (frB fr) (toS pz) ea
        · rename_i e
          rw [e] at h
          exact h
      · rw [if_neg hz] at h
        exact h.elim
  · rw [if_neg hm] at h
    exact h.elim
end
/-- def f(a, .., *v) -/
theorem fnE_star {P : Program} {w : World} {K : PySem.W.Frag} {mg : Str → Option Value} {base : Heap} {x qual : Str} {params : Arguments} {body : List Stmt} {scope : Scope} {f : Addr} {fd : FuncData} {N ps : List Str} {pv : Str} {k : Nat} {g : SM}
    (F : FunD K x qual params body scope [] [] f fd) (S : FnScope N (ps ++ [pv]) scope)
    (hb : ∀ (kV doc pm : Value) (an : Option Addr) (cdv ct : Value) (us rest : List Value), us.length = ps.length → bindArgs (PySem.W.fnOf x qual params body scope .none kV doc pm an cdv ct) ⟨us ++ rest, []⟩ = (newTuple rest >>= fun t => pure (ps.zip us ++ [(pv, t)])))
    (hbody : ∀ (cdv : Value) (A : Around) (outer : List Env) (s : Shared) (H : Hp) (E : XK), Room k (A.deeper (envOfC qual scope s.heap.objs.size f cdv)) → Takes (cxOf (CX P w) P w K mg base N qual scope f cdv A outer s H E) (wx E) →
      PSs (cxOf (CX P w) P w K mg base N qual scope f cdv A outer s H E) body (tS K (wx E) g)) : FnE P w K mg base (k + 1) f (arS ps.length (bodyF N.length g)) := by
  obtain ⟨oc, od, dV, kV, doc, pm, an, cdv, ct, osl, rfl, lk, hcd, hD, _⟩ := F.ex
  rcases hD with ⟨_, rfl⟩ | ⟨hne, _⟩
  case inr => exact absurd rfl hne
  have q := StX.fn_star (CX := L2.CX P w) (P := P) (w := w) (mg := mg) (base := base) (k := k) (sp := spD K (ps.length + 1) (bodyF N.length g)) lk hcd S StX.cxUp (fun us rest hl => hb kV doc pm an cdv ct us rest hl)
    (fun A outer s H vs Q E hr hsp => ⟨_, hbody cdv A outer s H E hr (takes_of rfl rfl rfl rfl), body_spD hsp.2⟩)
  exact FnR.imp q fun vs H Q E z => spE_star z
end Dl
end
section
set_option maxHeartbeats 4000000
/-! Calls over data: the rules. -/
namespace Dl
variable [Tabl]
open PySem PySem.Spec PyProof.Rows L2 Tx He
open Evl (Ex)
/-- f(e, ..) by a positional promise -/
theorem pe_callR {X : Cx} {CX : CXT} {k : Nat} {f : Addr} {sp : Sp} {E : XK} {x : Str} {p pos : Pos} {e : Expr} {es : List Expr} {t : TA} (F : FnR X.prog X.w X.K X.mg X.base CX k f sp) (hr : Room k X.A) (hk : PySem.W.keepIn X.K (.ref f) = true) (hg : Gl X x) (hm : X.mg x = some (.ref f)) (hx : Passes CX X E) (ha : PA X (e :: es) t) (hd : (x == ("__debug__" : Str)) = false := by decide)
    (he : starEach (e :: es) X.env = (false, eval e X.env) :: starEach es X.env := by rfl) (hpl : (backTo pos (starEach es X.env)).any (·.1) = false := by rfl) :
    PE X (.Call (.Name x p) (e :: es) [] pos) (fun σ H Q => t σ H fun vs H1 => sp vs H1 Q E) := by
  refine ⟨fun pins s σ H Q I h => ?_⟩
  refine wpAny_Call_Name_kw (ld_glob I hg hm ?_ hd)
  exact PySem.W.callWith_K (h₀ := X.base) I.ok.mod.kin hk (thn (ha.run pos pins s σ H _ I h) fun us s1 ⟨vs, H1, I1, r, q⟩ => ⟨I1.kIn, wpAny_call (run_fnR F hr hx I1 r q)⟩) he hpl
section
variable {K : PySem.W.Frag} {E : XK} {B : Bs} {M : List Addr} {Γ : Gm} {σ : L2.St} {H : Hp} {F : Fn} {fo : EM Sl} {ga : EM (List Ar)} {Q : VK}
theorem q_callE (h : tD K (wx E) (dCall F ga) σ H Q) : tDA K (wx E) ga σ H fun vs H1 => spE K F vs H1 Q E := by
  obtain ⟨B, M, Γ, S, h⟩ := h
  refine ⟨B, M, Γ, S, ?_⟩
  unfold dCall EM.bind at h
  cases e : ga Γ with
  | no => rw [e] at h; exact h
  | exc c fs g => rw [e] at h; exact h
  | ok as Γ1 =>
    rw [e] at h
    intro vs H1 M1 S1 e1 av
    refine spE_use S1 av ?_
    dsimp only at h
    cases hc : callD F as Γ1 with
    | no => rw [hc] at h; exact h
    | exc c fs g => rw [hc] at h; exact h
    | ok r Γ' => rw [hc] at h; exact fun v H' M' q => h v H' M' (q.of_ex e1)
/-- .. with a value ahead -/
def dCall1 (F : Fn) (d : D) (ga : EM (List Ar)) : EM Sl := ga.bind fun as => callD F (.dat d :: as)
theorem q_call1 {d : D} {x : V} (S : SR K B M Γ σ H) (r : Rep K (hid H M) x d) (h : match dCall1 F d ga Γ with
    | .ok r Γ' => ∀ v H' M', Val K B M Γ' σ H M' H' v r → Q v H'
    | .exc c fs Γ' => Fail K (wx E) B σ c fs Γ'
    | .no => False) : tDA K (wx E) ga σ H fun vs H1 => spE K F (x :: vs) H1 Q E := by
  refine ⟨B, M, Γ, S, ?_⟩
  unfold dCall1 EM.bind at h
  cases e : ga Γ with
  | no => rw [e] at h; exact h
  | exc c fs g => rw [e] at h; exact h
  | ok as Γ1 =>
    rw [e] at h
    intro vs H1 M1 S1 e1 av
    refine spE_use (as := .dat d :: as) S1 ⟨r.mono e1, av⟩ ?_
    dsimp only at h
    cases hc : callD F (.dat d :: as) Γ1 with
    | no => rw [hc] at h; exact h
    | exc c fs g => rw [hc] at h; exact h
    | ok r Γ' => rw [hc] at h; exact fun v H' M' q => h v H' M' (q.of_ex e1)
/-- the receiver: an instance of the class c, without an own attribute m -/
def isIns (c m : Str) : D → Bool
  | .ins c' fs => c' == c && (fs.lookup m).isNone
  | _ => false
def dMeth (c m : Str) (F : Fn) (fo : EM Sl) (ga : EM (List Ar)) : EM Sl := fo.bind fun o => if isIns c m o.d = true then dCall1 F o.d ga else fun _ => .no
theorem isIns_at {c m : Str} {d : D} {x : V} {H0 : Hp} (h : isIns c m d = true) (e : Ex H0 H) (r : Rep K H0 x d) : ∃ a dx fs, x = .ref a ∧ H a = some (.ins (He.ga K c) dx fs) ∧ fs.lookup m = none := by
  cases r with
  | ins ha rf =>
    rename_i a dx c' vs ds
    unfold isIns at h
    simp only [Bool.and_eq_true, beq_iff_eq, Option.isNone_iff_eq_none] at h
    obtain ⟨rfl, h2⟩ := h
    exact ⟨_, _, _, rfl, e _ _ ha, rf.none h2⟩
  | _ => cases h
theorem q_meth {c m : Str} (h : tD K (wx E) (dMeth c m F fo ga) σ H Q) : tD K (wx E) fo σ H fun x H1 => ∃ a dx fs, x = .ref a ∧ H1 a = some (.ins (He.ga K c) dx fs) ∧ fs.lookup m = none ∧ tDA K (wx E) ga σ H1 fun vs H2 => spE K F (x :: vs) H2 Q E := by
  obtain ⟨B, M, Γ, S, h⟩ := h
  refine tD_use S ?_
  unfold dMeth EM.bind at h
  cases e : fo Γ with
  | no => rw [e] at h; exact h
  | exc c fs g => rw [e] at h; exact h
  | ok o Γ1 =>
    rw [e] at h
    intro x H1 M1 S1 e1 r1
    dsimp only at h
    by_cases hi : isIns c m o.d = true
    · rw [if_pos hi] at h
      obtain ⟨a, dx, fs, q1, q2, q3⟩ := isIns_at hi hid_ex r1
      refine ⟨a, dx, fs, q1, q2, q3, q_call1 S1 r1 ?_⟩
      cases hc : dCall1 F o.d ga Γ1 with
      | no => rw [hc] at h; exact h
      | exc c fs g => rw [hc] at h; exact h
      | ok r Γ' => rw [hc] at h; exact fun v H' M' q => h v H' M' (q.of_ex e1)
    · rw [if_neg hi] at h
      exact h.elim
/-! making an instance -/
def dMake (c : Str) (F : Fn) (ga : EM (List Ar)) : EM Sl := ga.bind fun as Γ => match dats as with
  | none => .no
  | some ds => match F (.par (.ins c []) :: ds.map Sl.dat) with
    | .ok (.dat .non) [d] => .ok (.dat d) Γ
    | .exc k fs _ => .exc k fs Γ
    | _ => .no
theorem q_makeR {c : Str} {ds : List D} {vs : List V} (S : SR K B M Γ σ H) (r : Reps K (hid H M) vs ds) (h : match F (.par (.ins c []) :: ds.map Sl.dat) with
    | .ok (.dat .non) [d] => ∀ v H' M', Val K B M Γ σ H M' H' v (.dat d) → Q v H'
    | .exc k fs _ => Fail K (wx E) B σ k fs Γ
    | _ => False) (x dx : Addr) (hx : H x = none) (hdx : H dx = none) (ne : dx ≠ x) : spE K F (.ref x :: vs) (upd (upd H dx (.own x)) x (.ins (He.ga K c) dx [])) (fun v H2 => v = .non ∧ Q (.ref x) H2) E := by
  have exH : Ex H (upd (upd H dx (.own x)) x (.ins (He.ga K c) dx [])) := fun a o e => by
    rw [upd_ne (ne_of_none e hx), upd_ne (ne_of_none e hdx)]
    exact e
  have hx2 : upd (upd H dx (.own x)) x (.ins (He.ga K c) dx []) x = some (.ins (He.ga K c) dx []) := upd_same
  have xM : x ∉ M := S.not_in (.of hx)
  have exM : Ex (hid H M) (hid (upd (upd H dx (.own x)) x (.ins (He.ga K c) dx [])) (x :: M)) := fun a o z => by
    obtain ⟨n, z, t⟩ := hid_ofT z
    exact hid_at (fun q => (List.mem_cons.mp q).elim (ne_of_none z hx) n) (exH _ _ z) t
  have rs := r.mono exM
  have rl := r.length
  refine ⟨⟨x :: M, fun j => if j = 0 then some x else none, upd (upd H dx (.own x)) x (.ins (He.ga K c) dx [])⟩, .par (.ins c []) :: ds.map Sl.dat, rfl, ?_, ?_, ?_⟩
  · exact {
      dat := fun j d z => by
        cases j with
        | zero => cases z
        | succ j =>
          have z' : (ds.map Sl.dat)[j]? = some (.dat d) := map_some_at (by simpa using z)
          rw [List.getElem?_map] at z'
          cases e : ds[j]? with
          | none => rw [e] at z'; cases z'
          | some d' =>
            rw [e] at z'
            cases z'
            obtain ⟨v, e1, e2⟩ := rs.at e
            exact ⟨v, by simpa using e1, e2⟩
      own := fun j d z => by
        cases j with
        | zero => cases z
        | succ j =>
          have z' : (ds.map Sl.dat)[j]? = some (.own d) := map_some_at (by simpa using z)
          rw [List.getElem?_map] at z'
          cases e : ds[j]? <;> rw [e] at z' <;> cases z'
      par := fun j d z => by
        cases j with
        | zero =>
          cases z
          exact ⟨x, rfl, rfl, dx, [], hx2, .nil⟩
        | succ j =>
          have z' : (ds.map Sl.dat)[j]? = some (.par d) := map_some_at (by simpa using z)
          rw [List.getElem?_map] at z'
          cases e : ds[j]? <;> rw [e] at z' <;> cases z'
      sub := fun a z => z
      dom := fun a z => by
        rcases List.mem_cons.mp z with z | z
        · subst z; exact ⟨_, hx2, fun _ z => by cases z⟩
        · obtain ⟨o, q, w⟩ := S.dom a z
          exact ⟨o, exH _ _ q, w⟩
      frm := fun a o z _ _ => z
      len := by simp [rl]
      bok := {
        inj := fun i j p hi hj => by
          dsimp only at hi hj
          split at hi
          · split at hj
            · omega
            · cases hj
          · cases hi
        pin := fun i p hi => by
          dsimp only at hi
          split at hi
          · cases hi; exact List.mem_cons_self ..
          · cases hi
        dom := fun a z => by
          rcases List.mem_cons.mp z with z | z
          · subst z; exact ⟨_, hx2, fun _ z => by cases z⟩
          · obtain ⟨o, q, w⟩ := S.dom a z
            exact ⟨o, exH _ _ q, w⟩ }
      tab := S.tab.ext exH }
  · intro i d z
    cases i with
    | zero => cases z
    | succ j =>
      have z' : (ds.map Sl.dat)[j]? = some (.own d) := by simpa using z
      rw [List.getElem?_map] at z'
      cases e : ds[j]? <;> rw [e] at z' <;> cases z'
  · have keep : ∀ {H'}, FrmP ⟨x :: M, fun j => if j = 0 then some x else none, upd (upd H dx (.own x)) x (.ins (He.ga K c) dx [])⟩ H' → ExT H H' := fun {H'} fr => ⟨fun a o e t => fr.1 a o (exH _ _ e) t (fun i q => by
      dsimp only at q
      split at q
      · cases q
        rw [hx] at e; cases e
      · cases q), fun _ => fr.2⟩
    split
    · rename_i r ps e
      rw [e] at h
      intro v H' fr po
      cases r with
      | par d => exact h.elim
      | own d => exact h.elim
      | dat d0 =>
        cases d0 with
        | non =>
          cases ps with
          | nil => exact h.elim
          | cons d ps =>
            cases ps with
            | cons _ _ => exact h.elim
            | nil =>
              obtain ⟨⟨⟨p, q1, q2⟩, _⟩, rv⟩ := po
              cases rv
              cases q1
              refine ⟨rfl, h _ H' M ⟨S.extT (keep fr), hid_monoT (keep fr), ?_⟩⟩
              have q : OwnAt K (hid H' M) (hid H' M) x d := q2.mono (hid_sub sub_cons) fun o z => hid_at xM z (q2.nt z)
              exact q.rep (Evl.Ex.refl _)
        | _ => exact h.elim
    · rename_i k fs ps e
      rw [e] at h
      intro d H' fr pz ea
      exact h d H' M (S.extT (keep fr)) (ea.mono (hid_sub sub_cons))
    · rename_i e
      rw [e] at h
      exact h
theorem q_make {c : Str} (h : tD K (wx E) (dMake c F ga) σ H Q) : StX.tMakeR (He.ga K c) (spE K F) E (tDA K (wx E) ga) σ H Q := by
  obtain ⟨B, M, Γ, S, h⟩ := h
  refine ⟨B, M, Γ, S, ?_⟩
  unfold dMake EM.bind at h
  cases e : ga Γ with
  | no => rw [e] at h; exact h
  | exc c fs g => rw [e] at h; exact h
  | ok as Γ1 =>
    rw [e] at h
    intro vs H1 M1 S1 e1 av
    dsimp only at h
    cases hd : dats as with
    | none => rw [hd] at h; exact h.elim
    | some ds =>
      rw [hd] at h
      dsimp only at h
      intro x dx hx hdx ne
      refine q_makeR S1 (av.dats hd) ?_ x dx hx hdx ne
      split at h
      · rename_i r Γ' eq
        split at eq
        · cases eq
          exact fun v H' M' q => h v H' M' (q.of_ex e1)
        · cases eq
        · cases eq
      · rename_i k fs Γ' eq
        split at eq
        · cases eq
        · cases eq
          exact h
        · cases eq
      · exact h.elim
end
section
variable {X : Cx} {E : XK} {k : Nat} {f : Addr} {F : Fn} {x c m : Str} {e o : Expr} {es : List Expr} {fo : EM Sl} {gx : EM (List Ar)} {p pos apos : Pos}
theorem pass_of (tk : Takes X (wx E)) : Passes (L2.CX X.prog X.w) X E := passes_call tk fun _ _ _ _ h => h
theorem de_call (Fp : FnE X.prog X.w X.K X.mg X.base k f F) (hr : Room k X.A) (hk : PySem.W.keepIn X.K (.ref f) = true) (hg : Gl X x) (hm : X.mg x = some (.ref f)) (tk : Takes X (wx E)) (ha : PA X (e :: es) (tDA X.K (wx E) gx)) (hd : (x == ("__debug__" : Str)) = false := by decide)
    (he : starEach (e :: es) X.env = (false, eval e X.env) :: starEach es X.env := by rfl) (hpl : (backTo pos (starEach es X.env)).any (·.1) = false := by rfl) : PE X (.Call (.Name x p) (e :: es) [] pos) (tD X.K (wx E) (dCall F gx)) :=
  PE.imp (pe_callR Fp hr hk hg hm (pass_of tk) ha hd he hpl) fun _ _ _ h => q_callE h
theorem de_callG {fd : FuncData} {ps : List Str} (Fp : FnG X.prog X.w X.K X.mg X.base (L2.CX X.prog X.w) k f fd ps (spD X.K ps.length F)) (gd : X.A.guards = some []) (hr : Room k X.A) (hk : PySem.W.keepIn X.K (.ref f) = true) (hg : Gl X x) (hm : X.mg x = some (.ref f)) (bnd : Binds X.K fd ps []) (tk : Takes X (wx E)) (ha : PA X (e :: es) (tDA X.K (wx E) gx)) (hd : (x == ("__debug__" : Str)) = false := by decide)
    (he : starEach (e :: es) X.env = (false, eval e X.env) :: starEach es X.env := by rfl) (hpl : (backTo pos (starEach es X.env)).any (·.1) = false := by rfl) : PE X (.Call (.Name x p) (e :: es) [] pos) (tD X.K (wx E) (dCall (arP ps.length F) gx)) := by
  refine PE.imp (pe_callG Fp gd hr hg hm hk bnd .nil (pass_of tk) ha hd he hpl) fun σ H Q h => ?_
  have q := q_callE h
  obtain ⟨B, M, Γ, S, q⟩ := q
  refine ⟨B, M, Γ, S, ?_⟩
  cases eg : gx Γ with
  | no => rw [eg] at q; exact q
  | exc c fs g => rw [eg] at q; exact q
  | ok as Γ1 =>
    rw [eg] at q
    intro vs H1 M1 S1 e1 av
    have z := q vs H1 M1 S1 e1 av
    rw [List.append_nil]
    obtain ⟨B', sls, e0, S', no, z⟩ := z
    have hl : sls.length = vs.length := by simpa using S'.len
    unfold arP at z
    by_cases hn : sls.length = ps.length
    · rw [if_pos hn] at z
      exact ⟨by omega, B', sls, e0, S', no, z⟩
    · rw [if_neg hn] at z
      exact z.elim
theorem de_meth {pl : Sem Bool} (he : PE X o (tD X.K (wx E) fo)) (cl : Cls X.K (ga X.K c)) (hm : Meth X.K (ga X.K c) m f) (Fp : FnE X.prog X.w X.K X.mg X.base k f F) (hr : Room k X.A) (tk : Takes X (wx E)) (ha : PA X (e :: es) (tDA X.K (wx E) gx))
    (hst : starEach (e :: es) X.env = (false, eval e X.env) :: starEach es X.env := by rfl) (hpl : (backTo pos (starEach es X.env)).any (·.1) = false := by rfl)
    (ht : eval (.Call (.Attribute o m apos) (e :: es) [] pos) X.env = (do
      let ov ← eval o X.env
      standAt apos.atName
      let (f, first) ← holding [ov] (getMethod ov m pl)
      callWith pos f first (backTo pos (starEach (e :: es) X.env)) (backToKw pos (keywordEach [] X.env))) := by rfl) :
    PE X (.Call (.Attribute o m apos) (e :: es) [] pos) (tD X.K (wx E) (dMeth c m F fo gx)) := PE.imp (pe_methR he cl hm Fp hr (pass_of tk) ha hst hpl ht) fun _ _ _ h => q_meth h
theorem de_make {f : Addr} (Mk1 : Mk X.K (ga X.K c) f) (Fp : FnE X.prog X.w X.K X.mg X.base k f F) (hr : Room (k + 1) X.A) (hg : Gl X c) (hm : X.mg c = some (.ref (ga X.K c))) (tk : Takes X (wx E)) (ha : PA X (e :: es) (tDA X.K (wx E) gx)) (hdb : (c == ("__debug__" : Str)) = false := by decide)
    (he : starEach (e :: es) X.env = (false, eval e X.env) :: starEach es X.env := by rfl) (hpl : (backTo pos (starEach es X.env)).any (·.1) = false := by rfl) : PE X (.Call (.Name c p) (e :: es) [] pos) (tD X.K (wx E) (dMake c F gx)) :=
  PE.imp (StX.pe_makeR Mk1 Fp hr hg hm (pass_of tk) ha hdb he hpl) fun _ _ _ h => q_make h
/-- C(e, *y) -/
theorem de_makeS {f : Addr} (Mk1 : Mk X.K (ga X.K c) f) (Fp : FnE X.prog X.w X.K X.mg X.base k f F) (hr : Room (k + 1) X.A) (hg : Gl X c) (hm : X.mg c = some (.ref (ga X.K c))) (tk : Takes X (wx E)) (ha : PA X (e :: es) (tDA X.K (wx E) gx)) (hdb : (c == ("__debug__" : Str)) = false := by decide)
    (he : starEach (e :: es) X.env = (false, eval e X.env) :: starEach es X.env := by rfl) (hst : (backTo pos (starEach es X.env)).any (·.1) = true := by rfl) : PE X (.Call (.Name c p) (e :: es) [] pos) (tD X.K (wx E) (dMake c F gx)) :=
  PE.imp (pe_makeS Mk1 Fp hr hg hm (pass_of tk) ha hdb he hst) fun _ _ _ h => q_make h
end
end Dl
end
section
set_option maxHeartbeats 4000000
/-! Methods without arguments, class methods, fields, properties; things that are changed; raises; targets. -/
namespace Dl
variable [Tabl]
open PySem PySem.Spec PyProof.Rows L2 Tx He
open Evl (Ex)
section
variable {X : Cx} {E : XK} {k i : Nat} {f : Addr} {F : Fn} {x c m : Str} {e o : Expr} {es : List Expr} {fo : EM Sl} {gx : EM (List Ar)} {p pos apos np : Pos}
/-! ### the class in a slot -/
def isCls (c : Str) : Option (Option Sl) → Bool
  | some (some (.dat (.cls c'))) => c' == c
  | _ => false
def dMakeL (i : Nat) (c : Str) (F : Fn) (ga : EM (List Ar)) : EM Sl := fun Γ => if isCls c Γ[i]? = true then dMake c F ga Γ else .no
theorem q_makeL (h : tD X.K (wx E) (dMakeL i c F gx) σ H Q) : tMakeL i (ga X.K c) (spE X.K F) E (tDA X.K (wx E) gx) σ H Q := by
  obtain ⟨B, M, Γ, S, h⟩ := h
  unfold dMakeL at h
  by_cases hc : isCls c Γ[i]? = true
  · rw [if_pos hc] at h
    refine ⟨?_, q_make ⟨B, M, Γ, S, h⟩⟩
    unfold isCls at hc
    split at hc
    · rename_i c' hi
      obtain ⟨v, e1, e2⟩ := S.dat i _ hi
      cases e2
      rw [beq_iff_eq.mp hc] at e1
      exact e1
    · cases hc
  · rw [if_neg hc] at h
    exact h.elim
theorem de_makeL (Mk1 : Mk X.K (ga X.K c) f) (Fp : FnE X.prog X.w X.K X.mg X.base k f F) (hr : Room (k + 1) X.A) (hN : X.N[i]? = some x) (hv : Vis X.env.scope x) (tk : Takes X (wx E)) (ha : PA X (e :: es) (tDA X.K (wx E) gx))
    (hdb : (x == ("__debug__" : Str)) = false := by decide) (hcd : (x == ("__classdict__" : Str)) = false := by decide)
    (he : starEach (e :: es) X.env = (false, eval e X.env) :: starEach es X.env := by rfl) (hpl : (backTo pos (starEach es X.env)).any (·.1) = false := by rfl) : PE X (.Call (.Name x np) (e :: es) [] pos) (tD X.K (wx E) (dMakeL i c F gx)) :=
  PE.imp (pe_makeL Mk1 Fp hr hN hv (pass_of tk) ha hdb hcd he hpl) fun _ _ _ h => q_makeL h
theorem de_makeLS (Mk1 : Mk X.K (ga X.K c) f) (Fp : FnE X.prog X.w X.K X.mg X.base k f F) (hr : Room (k + 1) X.A) (hN : X.N[i]? = some x) (hv : Vis X.env.scope x) (tk : Takes X (wx E)) (ha : PA X (e :: es) (tDA X.K (wx E) gx))
    (hdb : (x == ("__debug__" : Str)) = false := by decide) (hcd : (x == ("__classdict__" : Str)) = false := by decide)
    (he : starEach (e :: es) X.env = (false, eval e X.env) :: starEach es X.env := by rfl) (hst : (backTo pos (starEach es X.env)).any (·.1) = true := by rfl) : PE X (.Call (.Name x np) (e :: es) [] pos) (tD X.K (wx E) (dMakeL i c F gx)) :=
  PE.imp (pe_makeLS Mk1 Fp hr hN hv (pass_of tk) ha hdb hcd he hst) fun _ _ _ h => q_makeL h
/-! ### class methods -/
def dCm (c : Str) (F : Fn) (ga : EM (List Ar)) : EM Sl := dCall1 F (.cls c) ga
theorem de_cmeth {mc : Value} {q g : Addr} {pl : Sem Bool} (he : PE X o (tD X.K (wx E) (dC (.cls c)))) (r : ClX.CRead X.K (ga X.K c) mc) (cm : ClX.CMet X.K (ga X.K c) mc m q g) (Fp : FnE X.prog X.w X.K X.mg X.base k g F) (hr : Room k X.A) (tk : Takes X (wx E)) (ha : PA X (e :: es) (tDA X.K (wx E) gx))
    (hst : starEach (e :: es) X.env = (false, eval e X.env) :: starEach es X.env := by rfl) (hpl : (backTo pos (starEach es X.env)).any (·.1) = false := by rfl)
    (ht : eval (.Call (.Attribute o m apos) (e :: es) [] pos) X.env = (do
      let ov ← eval o X.env
      standAt apos.atName
      let (f, first) ← holding [ov] (getMethod ov m pl)
      callWith pos f first (backTo pos (starEach (e :: es) X.env)) (backToKw pos (keywordEach [] X.env))) := by rfl) :
    PE X (.Call (.Attribute o m apos) (e :: es) [] pos) (tD X.K (wx E) (dCm c F gx)) := by
  refine PE.imp (ClX.pe_cmeth he r cm Fp hr (pass_of tk) ha hst hpl ht) fun σ H Q ⟨B, M, Γ, S, h⟩ => ?_
  refine tD_use S ?_
  show ∀ v H1 M1, SR X.K B M1 Γ σ H1 → _
  intro v H1 M1 S1 e1 r1
  have ev : v = V.ref (ga X.K c) := by
    have r2 : Rep X.K (hid H1 M1) v (.cls c) := r1
    cases r2
    rfl
  refine ⟨ev, ?_⟩
  rw [← ev]
  refine q_call1 (d := .cls c) S1 r1 ?_
  unfold dCm at h
  cases hc : dCall1 F (.cls c) gx Γ with
  | no => rw [hc] at h; exact h
  | exc c fs g => rw [hc] at h; exact h
  | ok r Γ' => rw [hc] at h; exact fun v H' M' q => h v H' M' (q.of_ex e1)
/-! ### o.m() -/
theorem pe_meth0R {CX : CXT} {C : Addr} {sp : Sp} {ta : TE} {pl : Sem Bool} (he : PE X o ta) (c : Cls X.K C) (hm : Meth X.K C m f) (F : FnR X.prog X.w X.K X.mg X.base CX k f sp) (hr : Room k X.A) (hx : Passes CX X E)
    (ht : eval (.Call (.Attribute o m apos) [] [] pos) X.env = (do
      let ov ← eval o X.env
      standAt apos.atName
      let (f, first) ← holding [ov] (getMethod ov m pl)
      callWith pos f first (backTo pos (starEach [] X.env)) (backToKw pos (keywordEach [] X.env))) := by rfl) :
    PE X (.Call (.Attribute o m apos) [] [] pos) (fun σ H Q => ta σ H fun x H1 => ∃ a dx fs, x = .ref a ∧ H1 a = some (.ins C dx fs) ∧ fs.lookup m = none ∧ sp [x] H1 Q E) := by
  refine ⟨fun pins s σ H Q I h => ?_⟩
  refine PySem.W.methodCall_KW (pl := pl) (thn (he.run pins s σ H _ I h) fun u s1 ⟨x, H1, I1, rx, a, dx, fs, ex, ea, l, q⟩ => ?_) ht
  subst ex
  obtain rfl : u = Value.ref a := rx
  refine getmeth_ok I1 ea c hm l ?_
  exact PySem.W.callWith_K0 (first := [.ref a]) I1.kIn hm.kp (wpAny_call (run_fnR (us := [.ref a]) (vs := [.ref a]) F hr hx I1 (.cons rfl .nil) q))
theorem de_meth0 {pl : Sem Bool} (he : PE X o (tD X.K (wx E) fo)) (cl : Cls X.K (ga X.K c)) (hm : Meth X.K (ga X.K c) m f) (Fp : FnE X.prog X.w X.K X.mg X.base k f F) (hr : Room k X.A) (tk : Takes X (wx E))
    (ht : eval (.Call (.Attribute o m apos) [] [] pos) X.env = (do
      let ov ← eval o X.env
      standAt apos.atName
      let (f, first) ← holding [ov] (getMethod ov m pl)
      callWith pos f first (backTo pos (starEach [] X.env)) (backToKw pos (keywordEach [] X.env))) := by rfl) :
    PE X (.Call (.Attribute o m apos) [] [] pos) (tD X.K (wx E) (dMeth c m F fo dANil)) := PE.imp (pe_meth0R he cl hm Fp hr (pass_of tk) ht) fun σ H Q h => by
  obtain ⟨B, M, Γ, S, h⟩ := h
  refine tD_use S ?_
  unfold dMeth EM.bind at h
  cases e : fo Γ with
  | no => rw [e] at h; exact h
  | exc c fs g => rw [e] at h; exact h
  | ok o Γ1 =>
    rw [e] at h
    intro x H1 M1 S1 e1 r1
    dsimp only at h
    by_cases hi : isIns c m o.d = true
    · rw [if_pos hi] at h
      obtain ⟨a, dx, fs, q1, q2, q3⟩ := isIns_at hi hid_ex r1
      refine ⟨a, dx, fs, q1, q2, q3, spE_use (as := [.dat o.d]) S1 ⟨r1, trivial⟩ ?_⟩
      unfold dCall1 EM.bind dANil EM.ret at h
      dsimp only at h
      cases hc : callD F [.dat o.d] Γ1 with
      | no => rw [hc] at h; exact h
      | exc c fs g => rw [hc] at h; exact h
      | ok r Γ' => rw [hc] at h; exact fun v H' M' q => h v H' M' (q.of_ex e1)
    · rw [if_neg hi] at h
      exact h.elim
/-! ### fields, properties, a class's constants -/
def fldD (cs : List Str) (f : Str) : D → Option Sl
  | .ins c fs => if cs.contains c = true then (fs.lookup f).map Sl.dat else none
  | _ => none
def dFld (cs : List Str) (f : Str) (fo : EM Sl) : EM Sl := dUn (fldD cs f) fo
theorem de_fld {W : WX} {n : Str} {cs : List Str} (he : PE X o (tD X.K W fo)) (hc : ∀ c ∈ cs, Cls X.K (ga X.K c) ∧ NoAttr X.K (ga X.K c) n) (hb : attributeBase o n X.env (eval o X.env) = eval o X.env := by rfl) : PE X (.Attribute o n pos) (tD X.K W (dFld cs n fo)) := by
  refine PE.imp (pe_fld he hb) fun σ H Q h => ?_
  have q := q_un h
  obtain ⟨B, M, Γ, S, q⟩ := q
  refine ⟨B, M, Γ, S, ?_⟩
  cases eg : fo Γ with
  | no => rw [eg] at q; exact q
  | exc c fs g => rw [eg] at q; exact q
  | ok o Γ1 =>
    rw [eg] at q
    intro x H1 M1 vl
    obtain ⟨M2, d, r, dm, rx, hg, kk⟩ := q x H1 M1 vl
    cases rx with
    | ins ha rf =>
      rename_i a dx c vs ds
      dsimp only [fldD] at hg
      by_cases hcs : cs.contains c = true
      · rw [if_pos hcs] at hg
        cases hl : ds.lookup n with
        | none => rw [hl] at hg; cases hg
        | some d1 =>
          rw [hl] at hg
          cases hg
          obtain ⟨y, y1, y2⟩ := rf.get hl
          obtain ⟨h1, h2⟩ := hc c (List.contains_iff_mem.mp hcs)
          exact ⟨a, _, dx, vs, y, rfl, (hid_of ha).2, h1, h2, y1, kk y H1 ⟨ExT.refl _, y2⟩⟩
      · rw [if_neg hcs] at hg
        cases hg
    | _ => cases hg
def dProp (c : Str) (F : Fn) (fo : EM Sl) : EM Sl := fo.bind fun o Γ => match o.d with
  | .ins c' fs => if c' = c then (match F [.dat (.ins c' fs)] with | .ok r [] => .ok r Γ | _ => .no) else .no
  | _ => .no
theorem de_prop {W : WX} {n : Str} {q g : Addr} {fd : FuncData} {ps : List Str} (he : PE X o (tD X.K W fo)) (cl : Cls X.K (ga X.K c)) (hp : PropOf X.K (ga X.K c) n q g) (Fp : FnOk X.prog X.w X.K X.mg X.base (L2.CX X.prog X.w) k g fd ps (spD X.K ps.length F)) (hl : ps.length = 1) (hr : Room (k + 1) X.A) (bnd : Binds X.K fd ps [])
    (hab : attributeBase o n X.env (eval o X.env) = eval o X.env := by rfl) : PE X (.Attribute o n pos) (tD X.K W (dProp c F fo)) := by
  have pas : Passes (L2.CX X.prog X.w) X.nox (fun _ _ _ => False) := fun pins σ H s e s' I h => by
    obtain ⟨a, B, H', cls, d, _, _, _, _, _, _, _, z⟩ := h
    exact z.elim
  refine PE.imp (pe_prop he cl hp Fp hr bnd .nil pas hab) fun σ H Q h => ?_
  obtain ⟨B, M, Γ, S, h⟩ := h
  refine tD_use S ?_
  unfold dProp EM.bind at h
  cases e : fo Γ with
  | no => rw [e] at h; exact h
  | exc c fs g => rw [e] at h; exact h
  | ok o Γ1 =>
    rw [e] at h
    intro x H1 M1 S1 e1 r1
    dsimp only at h
    cases hd : o.d with
    | ins c' fs =>
      rw [hd] at h r1
      dsimp only at h
      by_cases hc : c' = c
      · rw [if_pos hc] at h
        subst hc
        cases r1 with
        | ins ha rf =>
          rename_i a dx vs
          refine ⟨a, dx, vs, rfl, (hid_of ha).2, by rw [hl]; rfl, ?_⟩
          refine spE_use (as := [.dat (.ins c' fs)]) S1 ⟨.ins ha rf, trivial⟩ ?_
          unfold callD
          simp only [sRes, Option.map_some, slots, List.nodup_nil, if_true, zipS, putB_nil]
          cases hF : F [.dat (.ins c' fs)] with
          | no => rw [hF] at h; exact h
          | exc c fs g => rw [hF] at h; exact h.elim
          | ok r ps =>
            rw [hF] at h
            cases ps with
            | cons _ _ => exact h.elim
            | nil => exact fun v H' M' q => h v H' M' (q.of_ex e1)
      · rw [if_neg hc] at h
        exact h.elim
    | _ => rw [hd] at h; exact h.elim
/-- C.f, a constant of the class -/
theorem de_cval {W : WX} {n : Str} {v : V} {u : Value} {d : D} {mc : Value} (he : PE X o (tD X.K W (dC (.cls c)))) (r : ClX.CRead X.K (ga X.K c) mc) (cv : ClX.CVal X.K (ga X.K c) mc n v u) (rd : ∀ H, Rep X.K H v d) (hb : attributeBase o n X.env (eval o X.env) = eval o X.env := by rfl) : PE X (.Attribute o n pos) (tD X.K W (dC d)) := by
  refine PE.imp (ClX.pe_cval he hb) fun σ H Q ⟨B, M, Γ, S, h⟩ => ?_
  refine tD_use S ?_
  show ∀ v H1 M1, SR X.K B M1 Γ σ H1 → _
  intro y H1 M1 S1 e1 r1
  have r2 : Rep X.K (hid H1 M1) y (.cls c) := r1
  cases r2
  exact ⟨_, _, _, _, rfl, r, cv, h v H1 M1 ⟨S1, e1, rd _⟩⟩
end
/-! ### things that are changed -/
def setC (Γ : Gm) (i : Nat) (d : D) : Gm := match Γ[i]? with
  | some (some (.own _)) => Γ.set i (some (.own d))
  | some (some (.par _)) => Γ.set i (some (.par d))
  | _ => Γ
def heldD (Γ : Gm) (i : Nat) : Option D := match Γ[i]? with
  | some (some (.own d)) => some d
  | some (some (.par d)) => some d
  | _ => none
section
variable {K : PySem.W.Frag} {B : Bs} {M : List Addr} {Γ : Gm} {σ : L2.St} {H H' : Hp}
theorem heldD_at (S : SR K B M Γ σ H) {i : Nat} {d : D} (h : heldD Γ i = some d) : held Γ i ∧ ∃ p, σ[i]? = some (some (.ref p)) ∧ p ∈ M ∧ OwnAt K (hid H M) H p d := by
  unfold heldD at h
  split at h
  · rename_i d' e
    cases h
    have hh : held Γ i := .inl ⟨_, e⟩
    obtain ⟨p, d', e1, e2, e3, e4⟩ := held_at S hh
    refine ⟨hh, p, e1, e2, ?_⟩
    rcases e4 with z | z <;> rw [e] at z <;> cases z
    exact e3
  · rename_i d' e
    cases h
    have hh : held Γ i := .inr ⟨_, e⟩
    obtain ⟨p, d', e1, e2, e3, e4⟩ := held_at S hh
    refine ⟨hh, p, e1, e2, ?_⟩
    rcases e4 with z | z <;> rw [e] at z <;> cases z
    exact e3
  · cases h
theorem SR.mut (S : SR K B M Γ σ H) {i : Nat} {d : D} {p : Addr} {o : HO} (hh : held Γ i) (hp : σ[i]? = some (some (.ref p))) (ho : OwnAt K (hid H M) (upd H p o) p d) : SR K B M (setC Γ i d) σ (upd H p o) ∧ Ex (hid H M) (hid (upd H p o) M) := by
  obtain ⟨p', d0, e1, e2, e3, e4⟩ := held_at S hh
  rw [hp] at e1
  cases e1
  have ex : Ex (hid H M) (hid (upd H p o) M) := fun a u z => by
    obtain ⟨n, z, t⟩ := hid_ofT z
    have ne : a ≠ p := fun q => n (q ▸ e2)
    exact hid_at n (by rw [upd_ne ne]; exact z) t
  have hi : i < Γ.length := by
    rcases e4 with z | z <;> exact (List.getElem?_eq_some_iff.mp z).1
  have get : ∀ (j : Nat) (s : Sl), (setC Γ i d)[j]? = some (some s) → (j ≠ i ∧ Γ[j]? = some (some s)) ∨ (j = i ∧ ((s = .own d ∧ Γ[i]? = some (some (.own d0))) ∨ (s = .par d ∧ Γ[i]? = some (some (.par d0))))) := fun j s h => by
    unfold setC at h
    rcases e4 with z | z
    · rw [z] at h
      dsimp only at h
      by_cases hj : j = i
      · subst hj
        rw [List.getElem?_set_self hi] at h
        cases h
        exact .inr ⟨rfl, .inl ⟨rfl, z⟩⟩
      · rw [List.getElem?_set_ne (Ne.symm hj)] at h
        exact .inl ⟨hj, h⟩
    · rw [z] at h
      dsimp only at h
      by_cases hj : j = i
      · subst hj
        rw [List.getElem?_set_self hi] at h
        cases h
        exact .inr ⟨rfl, .inr ⟨rfl, z⟩⟩
      · rw [List.getElem?_set_ne (Ne.symm hj)] at h
        exact .inl ⟨hj, h⟩
  refine ⟨?_, ex⟩
  have other : ∀ (j : Nat) (q : Addr), j ≠ i → held Γ j → σ[j]? = some (some (.ref q)) → q ≠ p := fun j q hj hh' e z => hj (held_inj S hh' hh e (z ▸ hp))
  have ho' : OwnAt K (hid (upd H p o) M) (upd H p o) p d := ho.mono ex fun _ z => z
  exact {
    dat := fun j e h => by
      rcases get j _ h with ⟨_, h⟩ | ⟨_, ⟨z, _⟩ | ⟨z, _⟩⟩
      · obtain ⟨v, f1, f2⟩ := S.dat j e h
        exact ⟨v, f1, f2.mono ex⟩
      · cases z
      · cases z
    own := fun j e h => by
      rcases get j _ h with ⟨nj, h⟩ | ⟨hji, ⟨z, h2⟩ | ⟨z, h2⟩⟩
      · obtain ⟨q, f1, f2, f3, f4, f5⟩ := S.own j e h
        have nq := other j q nj (.inl ⟨e, h⟩) f1
        refine ⟨q, f1, f2, f3, f4.mono ex (fun u z => by rw [upd_ne nq]; exact z), fun j' e' h' hs => ?_⟩
        rcases get j' _ h' with ⟨_, h'⟩ | ⟨hj', ⟨z', h3⟩ | ⟨z', h3⟩⟩
        · exact f5 j' e' h' hs
        · rw [hj'] at hs ⊢
          exact f5 _ _ h3 hs
        · cases z'
      · cases z
        obtain ⟨q, f1, f2, f3, f4, f5⟩ := S.own i d0 h2
        rw [hp] at f1
        cases f1
        rw [hji]
        refine ⟨p, hp, f2, f3, ho', fun j' e' h' hs => ?_⟩
        rcases get j' _ h' with ⟨_, h'⟩ | ⟨hj, _⟩
        · exact f5 j' e' h' hs
        · exact hj
      · cases z
    par := fun j e h => by
      rcases get j _ h with ⟨nj, h⟩ | ⟨hji, ⟨z, h2⟩ | ⟨z, h2⟩⟩
      · obtain ⟨q, f1, f2, f3⟩ := S.par j e h
        have nq := other j q nj (.inr ⟨e, h⟩) f1
        exact ⟨q, f1, f2, f3.mono ex (fun u z => by rw [upd_ne nq]; exact z)⟩
      · cases z
      · cases z
        obtain ⟨q, f1, f2, f3⟩ := S.par i d0 h2
        rw [hp] at f1
        cases f1
        rw [hji]
        exact ⟨p, hp, f2, ho'⟩
    sub := S.sub
    dom := fun a h => by
      by_cases ha : a = p
      · subst ha; exact ⟨_, upd_same, ho.nt upd_same⟩
      · obtain ⟨u, q, w⟩ := S.dom a h
        exact ⟨u, by rw [upd_ne ha]; exact q, w⟩
    frm := fun a u h t n => by
      have ne : a ≠ p := fun z => by
        subst z
        rcases e4 with w | w
        · obtain ⟨q, f1, f2, f3, _⟩ := S.own i d0 w
          rw [hp] at f1
          cases f1
          exact f3 _ h t
        · obtain ⟨q, f1, f2, _⟩ := S.par i d0 w
          rw [hp] at f1
          cases f1
          exact n i f2
      rw [upd_ne ne]
      exact S.frm a u h t n
    len := by
      unfold setC
      split
      · rw [List.length_set]; exact S.len
      · rw [List.length_set]; exact S.len
      · exact S.len
    bok := S.bok
    tab := tabs_by S.tab fun b u hb k => by
      have ne : b ≠ p := fun z => by
        obtain ⟨p', d', b1, _, b3, _⟩ := held_at S hh
        rw [hp] at b1
        cases b1
        obtain ⟨o', o1, o2, o3⟩ := b3.no_tab
        rw [z, o1] at hb
        cases hb
        rcases k with ⟨ps, k⟩ | ⟨φ, k⟩
        · exact o2 _ k
        · exact o3 _ k
      rw [upd_ne ne]
      exact hb }
end
/-- x[j], x a list that is held -/
def ixS (Γ : Gm) (i : Nat) (y : D) : Option Sl := match heldD Γ i, y with
  | some (.lst ds), .int k => (atI ds k).map Sl.dat
  | _, _ => none
def dIxS (i : Nat) (fb : EM Sl) : EM Sl := fun Γ => if (heldD Γ i).isSome = true then (fb.bind fun y Γ => EM.opt (ixS Γ i y.d) Γ) Γ else .no
theorem Reps.atI {K : PySem.W.Frag} {H : Hp} {vs : List V} {ds : List D} {k : Int} {d : D} (r : Reps K H vs ds) (h : L2.atI ds k = some d) : ∃ v, L2.atI vs k = some v ∧ Rep K H v d := by
  unfold L2.atI at h ⊢
  rw [r.length]
  cases e : ixN ds.length k with
  | none => rw [e] at h; cases h
  | some j =>
    rw [e] at h
    simp only [Option.bind_some] at h ⊢
    exact r.at h
section
variable {X : Cx} {W : WX} {i : Nat} {x : Str} {a b e : Expr} {fa fb : EM Sl} {pos p : Pos}
theorem de_ixS (hN : X.N[i]? = some x) (hv : Vis X.env.scope x) (hb : PE X b (tD X.K W fb)) (hs : PlainIx b) (hd : (x == ("__debug__" : Str)) = false := by decide) (hcd : (x == ("__classdict__" : Str)) = false := by decide) : PE X (.Subscript (.Name x p) b pos) (tD X.K W (dIxS i fb)) := by
  refine PE.imp (pe_ix ix_list (pe_var hN hv hd hcd) hb hs) fun σ H Q ⟨B, M, Γ, S, h⟩ => ?_
  unfold dIxS at h
  by_cases hh : (heldD Γ i).isSome = true
  · rw [if_pos hh] at h
    obtain ⟨d, hd⟩ := Option.isSome_iff_exists.mp hh
    obtain ⟨_, q, e1, e2, e3⟩ := heldD_at S hd
    refine ⟨.ref q, e1, tD_use S ?_⟩
    unfold EM.bind at h
    cases e : fb Γ with
    | no => rw [e] at h; exact h
    | exc c fs g => rw [e] at h; exact h
    | ok y Γ1 =>
      rw [e] at h
      intro v H1 M1 S1 ex1 r1
      dsimp only at h
      unfold ixS EM.opt at h
      split at h
      · rename_i r Γ' eq
        split at eq
        · rename_i r0 hr
          cases eq
          split at hr
          · rename_i ds k hk hy
            rw [hy] at r1
            cases r1
            cases ha : L2.atI ds k with
            | none => rw [ha] at hr; cases hr
            | some d0 =>
              rw [ha] at hr
              cases hr
              obtain ⟨_, q', f1, f2, vs, f3, f4⟩ := heldD_at S1 hk
              rw [e1] at f1
              cases f1
              obtain ⟨w, g1, g2⟩ := f4.atI ha
              exact ⟨q, vs, k, w, rfl, rfl, Evl.sq_of f3, g1, h w H1 M1 ⟨S1, ex1, g2⟩⟩
          · cases hr
        · cases eq
      · rename_i eq
        split at eq <;> cases eq
      · exact h.elim
  · rw [if_neg hh] at h
    exact h.elim
end
end Dl
end
section
set_option maxHeartbeats 4000000
/-! Statements that change things; raises; targets; loops. -/
namespace Dl
variable [Tabl]
open PySem PySem.Spec PyProof.Rows L2 Tx He
open Evl (Ex)
def lstOf : Option D → Option (List D)
  | some (.lst ds) => some ds
  | _ => none
/-- x[j] = e -/
def dSetIx (i : Nat) (fe fj : EM Sl) : SM := dThen fe fun v Γ => if (heldD Γ i).isSome = true then dThen fj (fun y Γ1 => match lstOf (heldD Γ1 i), y.d with
  | some ds, .int k => (match ixN ds.length k with | some j => .nx (setC Γ1 i (.lst (ds.set j v.d))) | none => .no)
  | _, _ => .no) Γ else .no
/-- x.append(e) -/
def dApp (i : Nat) (fe : EM Sl) : SM := fun Γ => if (lstOf (heldD Γ i)).isSome = true then dThen fe (fun v Γ1 => match lstOf (heldD Γ1 i) with
  | some ds => if ds.length < sizeLine then .nx (setC Γ1 i (.lst (ds ++ [v.d]))) else .no
  | none => .no) Γ else .no
def putD (f : Str) (v : D) : List (Str × D) → List (Str × D)
  | [] => [(f, v)]
  | (g, u) :: fs => if g = f then (g, v) :: fs else (g, u) :: putD f v fs
/-- x.f = e -/
def dSetF (cs : List Str) (i : Nat) (f : Str) (fe : EM Sl) : SM := dThen fe fun v Γ => match heldD Γ i with
  | some (.ins c fs) => if cs.contains c = true ∧ fs.length < 1000 then .nx (setC Γ i (.ins c (putD f v.d fs))) else .no
  | _ => .no
def dRaise (c : Str) (fs : List (Str × D)) : SM := fun Γ => .exc c fs Γ
def dRaise1 (c f : Str) (fe : EM Sl) : SM := dThen fe fun v Γ => .exc c [(f, v.d)] Γ
def dRaise2 (c f g : Str) (fe fe2 : EM Sl) : SM := dThen fe fun v => dThen fe2 fun u Γ => .exc c [(g, u.d), (f, v.d)] Γ
def dNo : SM := fun _ => .no
theorem lstOf_some {o : Option D} {ds : List D} (h : lstOf o = some ds) : o = some (.lst ds) := by
  unfold lstOf at h
  split at h
  · cases h; rfl
  · cases h
theorem RepF.put {K : PySem.W.Frag} {H : Hp} {f : Str} {v : V} {d : D} (r : Rep K H v d) : ∀ {vs : List (Str × V)} {ds : List (Str × D)}, RepF K H vs ds → RepF K H (putF f v vs) (putD f d ds)
  | _, _, .nil => .cons r .nil
  | (k, x) :: vs, (_, y) :: ds, .cons h t => by
    unfold putF putD
    by_cases e : k = f
    · simp only [e, if_true]
      exact .cons r t
    · simp only [e, if_false]
      exact .cons h (RepF.put r t)
section
variable {X : Cx} {W : WX} {i : Nat} {x : Str} {a b e e2 : Expr} {fe fe2 fj : EM Sl} {pos p sp : Pos}
theorem ds_no {st : Stmt} : PS X st (tS X.K W dNo) := ⟨fun pins s σ H D I ⟨B, M, Γ, S, h⟩ => h.elim⟩
theorem ds_setIx (hN : X.N[i]? = some x) (hv : Vis X.env.scope x) (he : PE X e (tD X.K W fe)) (hj : PE X b (tD X.K W fj)) (hd : (x == ("__debug__" : Str)) = false := by decide) (hcd : (x == ("__classdict__" : Str)) = false := by decide)
    (ha : ∀ v, assign (.Subscript (.Name x p) b sp) X.env v = (do
      let ov ← holding [v] (eval (.Name x p) X.env)
      let iv ← holding [v, ov] (eval b X.env)
      standAt sp
      holding [v, ov, iv] (setItem ov iv v)
      release [v, ov, iv] []) := by intro _; rfl)
    (hs : swapsWithSole [.Subscript (.Name x p) b sp] e pos.line X.env = pure false := by rfl) (hw : swappedStores [.Subscript (.Name x p) b sp] e X.env = pure none := by rfl)
    (h1 : (assignEach [.Subscript (.Name x p) b sp] X.env).map (·.2) = [assign (.Subscript (.Name x p) b sp) X.env] := by rfl) : PS X (.Assign [.Subscript (.Name x p) b sp] e pos) (tS X.K W (dSetIx i fe fj)) := by
  refine PS.imp (ps_asg he (pg_sub (pe_var hN hv hd hcd) hj set_list ha) hs hw h1) fun D σ H ⟨B, M, Γ, S, h⟩ => ?_
  refine fin_then S h (fun _ _ _ _ _ z => z σ) fun v Γ1 v1 H1 M1 ev q z => ?_
  by_cases hh : (heldD Γ1 i).isSome = true
  · rw [if_pos hh] at z
    obtain ⟨d0, hd0⟩ := Option.isSome_iff_exists.mp hh
    obtain ⟨_, q0, e1, e2, e3⟩ := heldD_at q.dat.1 hd0
    refine ⟨.ref q0, e1, ?_⟩
    refine fin_then (W := W) (D := D) q.dat.1 (z.mono q.dat.2.1) (fun _ _ _ _ _ z => z σ) fun y Γ2 v2 H2 M2 ey q2 z => ?_
    split at z
    · rename_i ds k hl hy
      have hl' := lstOf_some hl
      cases hx : ixN ds.length k with
      | none => rw [hx] at z; exact z.elim
      | some j =>
        rw [hx] at z
        obtain ⟨hh2, q', f1, f2, vs, f3, f4⟩ := heldD_at q2.dat.1 hl'
        rw [e1] at f1
        cases f1
        have r2 := q2.dat.2.2
        rw [hy] at r2
        cases r2
        refine ⟨q0, vs, k, j, rfl, rfl, f3, by rw [f4.length]; exact hx, ?_⟩
        obtain ⟨S3, ex3⟩ := q2.dat.1.mut (o := .lst (vs.set j v1)) (d := .lst (ds.set j v.d)) hh2 e1 ⟨_, upd_same, f4.set (q.dat.2.2.mono q2.dat.2.1) j⟩
        exact z σ _ M2 S3 (q2.dat.2.1.trans ex3)
    · exact z.elim
  · rw [if_neg hh] at z
    exact z.elim
theorem ds_app {apos cpos : Pos} (hN : X.N[i]? = some x) (hv : Vis X.env.scope x) (he : PE X e (tD X.K W fe)) (hd : (x == ("__debug__" : Str)) = false := by decide) (hcd : (x == ("__classdict__" : Str)) = false := by decide)
    (hfew : ((backTo cpos (starEach (e :: []) X.env)).all (fun x => !x.1) && (backToKw cpos (keywordEach [] X.env)).all (fun x => x.1.isSome)
      && decide ((e :: []).length + ([] : List Keyword).length + (if ([] : List Keyword).isEmpty then 0 else 1) < 30)) = true := by rfl)
    (hline : (apos.endLine == cpos.line) = true := by rfl) (hs : starEach (e :: []) X.env = (false, eval e X.env) :: starEach [] X.env := by rfl)
    (hsw : swapsWith (.Call (.Attribute (.Name x p) "append" apos) [e] [] cpos) none pos.line X.env = pure false := by rfl) : PS X (.Expr (.Call (.Attribute (.Name x p) "append" apos) [e] [] cpos) pos) (tS X.K W (dApp i fe)) := by
  refine PS.imp (ps_expr (pe_bm PySem.F.plainAttrs_list PySem.F.slot_list_append PySem.F.type_list_append mt_append (pe_var hN hv hd hcd) (pa_cons he pa_nil hs) rfl hfew hline hs) hsw) fun D σ H ⟨B, M, Γ, S, h⟩ => ?_
  unfold dApp at h
  by_cases hh : (lstOf (heldD Γ i)).isSome = true
  · rw [if_pos hh] at h
    obtain ⟨d0, hd0⟩ := Option.isSome_iff_exists.mp hh
    obtain ⟨_, q0, e1, e2, vs0, e3, e4⟩ := heldD_at S (lstOf_some hd0)
    refine ⟨.ref q0, e1, .inl ⟨rfl, vs0, Evl.sq_of e3⟩, ?_⟩
    refine fin_then S h (fun _ _ _ _ _ z => z σ) fun v Γ1 v1 H1 M1 ev q z => ?_
    split at z
    · rename_i ds hl
      by_cases hz : ds.length < sizeLine
      · rw [if_pos hz] at z
        obtain ⟨hh2, q', f1, f2, vs, f3, f4⟩ := heldD_at q.dat.1 (lstOf_some hl)
        rw [e1] at f1
        cases f1
        refine ⟨q0, vs, v1, rfl, rfl, f3, by rw [f4.length]; exact hz, ?_⟩
        obtain ⟨S3, ex3⟩ := q.dat.1.mut (o := .lst (vs ++ [v1])) (d := .lst (ds ++ [v.d])) hh2 e1 ⟨_, upd_same, f4.append (.cons q.dat.2.2 .nil)⟩
        exact z σ _ M1 S3 (q.dat.2.1.trans ex3)
      · rw [if_neg hz] at z
        exact z.elim
    · exact z.elim
  · rw [if_neg hh] at h
    exact h.elim
theorem ds_setF {f : Str} {cs : List Str} {pos' : Pos} (hN : X.N[i]? = some x) (hv : Vis X.env.scope x) (he : PE X e (tD X.K W fe)) (hc : ∀ c ∈ cs, Cls X.K (ga X.K c) ∧ NoAttr X.K (ga X.K c) f) (hd : (x == ("__debug__" : Str)) = false := by decide) (hcd : (x == ("__classdict__" : Str)) = false := by decide)
    (hs : swapsWith e (some (.Attribute (.Name x p) f pos')) pos.line X.env = pure false := by rfl) : PS X (.Assign [.Attribute (.Name x p) f pos'] e pos) (tS X.K W (dSetF cs i f fe)) := by
  refine PS.imp (ps_fld (pe_var hN hv hd hcd) he hs) fun D σ H ⟨B, M, Γ, S, h⟩ => ?_
  refine fin_then S h (fun _ _ _ _ _ z => z σ) fun v Γ1 v1 H1 M1 ev q z => ?_
  split at z
  · rename_i c fs hl
    by_cases hz : cs.contains c = true ∧ fs.length < 1000
    · rw [if_pos hz] at z
      obtain ⟨hh2, q0, f1, f2, dx, vs, f3, f4⟩ := heldD_at q.dat.1 hl
      obtain ⟨h1, h2⟩ := hc c (List.contains_iff_mem.mp hz.1)
      refine ⟨.ref q0, f1, q0, _, dx, vs, rfl, f3, h1, h2, by rw [f4.length]; exact hz.2, ?_⟩
      obtain ⟨S3, ex3⟩ := q.dat.1.mut (o := .ins (ga X.K c) dx (putF f v1 vs)) (d := .ins c (putD f v.d fs)) hh2 f1 ⟨_, _, upd_same, f4.put q.dat.2.2⟩
      exact z σ _ M1 S3 (q.dat.2.1.trans ex3)
    · rw [if_neg hz] at z
      exact z.elim
  · exact z.elim
/-! ### raises -/
theorem ds_raise0 {n : Str} {rp : Pos} (hc : X.calm = true) (ex : PySem.W.excIn X.K (ga X.K n) He.veBase "ValueError.__new__" = true) (gC : X.mg n = some (.ref (ga X.K n))) (kC : PySem.W.keepIn X.K (.ref (ga X.K n)) = true) (r : Raises X (.ref (ga X.K n))) (tk : Takes X W) (hg : Gl X n)
    (hdb : (n == ("__debug__" : Str)) = false := by decide) : PS X (.Raise (some (.Call (.Name n p) [] [] pos)) none rp) (tS X.K W (dRaise n [])) :=
  PS.imp (ps_raise0 hc ex gC kC r tk hg hdb) fun D σ H ⟨B, M, Γ, S, h⟩ => h σ none H M S (.inl ⟨rfl, rfl⟩)
theorem ds_raise1 {n f : Str} {rp : Pos} (hc : X.calm = true) (T : Er1 X.prog X.w X.K X.mg X.base n f) (room : Room 2 X.A) (tk : Takes X W) (hg : Gl X n) (he : PE X e (tD X.K W fe)) (ndb : (n == ("__debug__" : Str)) = false := by decide)
    (se : starEach [e] X.env = (false, eval e X.env) :: starEach [] X.env := by rfl) : PS X (.Raise (some (.Call (.Name n p) [e] [] pos)) none rp) (tS X.K W (dRaise1 n f fe)) := by
  refine PS.imp (ps_raise1 hc T room tk hg he ndb se) fun D σ H ⟨B, M, Γ, S, h⟩ => ?_
  refine fin_then S h (fun _ _ _ _ _ z => z σ) fun v Γ1 v1 H1 M1 ev q z => ?_
  intro d H' ex nd hd
  refine z σ (some d) H' M1 (q.dat.1.ext ex) (.inr ⟨d, [(f, v1)], rfl, ?_, .cons (q.dat.2.2.mono (hid_mono ex)) .nil⟩)
  exact hid_at (q.dat.1.not_in (.of nd)) hd (fun _ z => by cases z)
theorem ds_raise2 {n f g : Str} {rp : Pos} (hc : X.calm = true) (T : Er2 X.prog X.w X.K X.mg X.base n f g) (room : Room 2 X.A) (tk : Takes X W) (hg : Gl X n) (he : PE X e (tD X.K W fe)) (he2 : PE X e2 (tD X.K W fe2)) (ndb : (n == ("__debug__" : Str)) = false := by decide)
    (se : starEach [e, e2] X.env = (false, eval e X.env) :: starEach [e2] X.env := by rfl) (se2 : starEach [e2] X.env = (false, eval e2 X.env) :: starEach [] X.env := by rfl) (sn : (backTo pos (starEach [e2] X.env)).any (·.1) = false := by rfl) :
    PS X (.Raise (some (.Call (.Name n p) [e, e2] [] pos)) none rp) (tS X.K W (dRaise2 n f g fe fe2)) := by
  refine PS.imp (ps_raise2 hc T room tk hg he he2 ndb se se2 sn) fun D σ H ⟨B, M, Γ, S, h⟩ => ?_
  refine fin_then S h (fun _ _ _ _ _ z => z σ) fun v Γ1 v1 H1 M1 ev q z => ?_
  refine fin_then (W := W) (D := D) q.dat.1 (z.mono q.dat.2.1) (fun _ _ _ _ _ z => z σ) fun u Γ2 u1 H2 M2 eu q2 z => ?_
  intro d H' ex nd hd
  refine z σ (some d) H' M2 (q2.dat.1.ext ex) (.inr ⟨d, [(g, u1), (f, v1)], rfl, ?_, .cons (q2.dat.2.2.mono (hid_mono ex)) (.cons ((q.dat.2.2.mono q2.dat.2.1).mono (hid_mono ex)) .nil)⟩)
  exact hid_at (q2.dat.1.not_in (.of nd)) hd (fun _ z => by cases z)
end
/-! ### targets -/
/-- the slots, but for those told, stay -/
def Tch (l : List Nat) (σ σ' : L2.St) : Prop := σ'.length = σ.length ∧ ∀ j : Nat, j ∉ l → σ'[j]? = σ[j]?
def tDG (K : PySem.W.Frag) (l : List Nat) (g : D → Gm → Option Gm) : TG := fun v σ H Q => ∃ B M Γ d, SR K B M Γ σ H ∧ Rep K (hid H M) v d ∧ match g d Γ with
  | some Γ' => ∀ σ', Tch l σ σ' → SR K B M Γ' σ' H → Q σ' H
  | none => False
def tDGs (K : PySem.W.Frag) (l : List Nat) (g : List D → Gm → Option Gm) : TGs := fun vs σ H Q => ∃ B M Γ ds, SR K B M Γ σ H ∧ Reps K (hid H M) vs ds ∧ match g ds Γ with
  | some Γ' => ∀ σ', Tch l σ σ' → SR K B M Γ' σ' H → Q σ' H
  | none => False
def gD (i : Nat) : D → Gm → Option Gm := fun d Γ => some (Γ.set i (some (.dat d)))
def gDNil : List D → Gm → Option Gm := fun ds Γ => match ds with
  | [] => some Γ
  | _ => none
def gDCons (g : D → Gm → Option Gm) (gs : List D → Gm → Option Gm) : List D → Gm → Option Gm := fun ds Γ => match ds with
  | d :: ds => (g d Γ).bind (gs ds)
  | [] => none
def gDTup (n : Nat) (gs : List D → Gm → Option Gm) : D → Gm → Option Gm := fun d Γ => match d with
  | .tup ds => if ds.length = n then gs ds Γ else none
  | _ => none
def gDLst (n : Nat) (gs : List D → Gm → Option Gm) : D → Gm → Option Gm := fun d Γ => match d with
  | .lst ds => if ds.length = n then gs ds Γ else none
  | _ => none
theorem PG.imp {X : Cx} {e : Expr} {t t' : TG} (h : PG X e t) (k : ∀ v σ H Q, t' v σ H Q → t v σ H Q) : PG X e t' := ⟨fun pins s σ H v u Q I r q => h.run pins s σ H v u Q I r (k v σ H Q q)⟩
theorem PGs.imp {X : Cx} {e : List Expr} {t t' : TGs} (h : PGs X e t) (k : ∀ v σ H Q, t' v σ H Q → t v σ H Q) : PGs X e t' := ⟨fun pins s σ H v u Q I r q => h.run pins s σ H v u Q I r (k v σ H Q q)⟩
section
variable {X : Cx} {W : WX} {i n : Nat} {x : Str} {e : Expr} {es : List Expr} {fe : EM Sl} {pos p sp : Pos} {g : D → Gm → Option Gm} {gs : List D → Gm → Option Gm}
theorem dg_name (hN : X.N.Nodup) (hi : X.N[i]? = some x) (hx : Loc X.env.scope x) (hf : X.fn x = true ∨ X.env.scope.names.lookup x = some .local := by first | exact .inl rfl | exact .inr rfl | assumption) : PG X (.Name x pos) (tDG X.K [i] (gD i)) :=
  PG.imp (pg_name hN hi hx hf) fun v σ H Q ⟨B, M, Γ, d, S, r, h⟩ => h _ ⟨List.length_set .., fun j hj => List.getElem?_set_ne fun z => hj (by rw [z]; exact List.mem_cons_self ..)⟩ (S.setDat i r)
theorem dg_nil : PGs X [] (tDGs X.K [] gDNil) := PGs.imp pgs_nil fun v σ H Q ⟨B, M, Γ, ds, S, r, h⟩ => by
  cases r with
  | nil => exact ⟨rfl, h σ ⟨rfl, fun _ _ => rfl⟩ S⟩
  | cons _ _ => exact h.elim
theorem dg_cons {l l' : List Nat} (h1 : PG X e (tDG X.K l g)) (h2 : PGs X es (tDGs X.K l' gs)) (hs : (assignEach (e :: es) X.env).map (·.2) = assign e X.env :: (assignEach es X.env).map (·.2) := by rfl) : PGs X (e :: es) (tDGs X.K (l ++ l') (gDCons g gs)) :=
  PGs.imp (pgs_cons h1 h2 hs) fun v σ H Q ⟨B, M, Γ, ds, S, r, h⟩ => by
    cases r with
    | nil => exact h.elim
    | cons r rs =>
      refine ⟨_, _, rfl, B, M, Γ, _, S, r, ?_⟩
      unfold gDCons at h
      dsimp only at h
      rename_i d1 _ ds _
      cases e1 : g d1 Γ with
      | none => rw [e1] at h; exact h
      | some Γ1 =>
        rw [e1] at h
        refine fun σ' T' S' => ⟨B, M, Γ1, ds, S', rs, ?_⟩
        simp only [Option.bind_some] at h
        cases e2 : gs ds Γ1 with
        | none => rw [e2] at h; exact h
        | some Γ2 =>
          rw [e2] at h
          exact fun σ2 T2 S2 => h σ2 ⟨T2.1.trans T'.1, fun j hj => (T2.2 j fun z => hj (List.mem_append_right _ z)).trans (T'.2 j fun z => hj (List.mem_append_left _ z))⟩ S2
theorem dg_tup {k : Nat} {l : List Nat} (hc : X.calm = true) (h : PGs X es (tDGs X.K l gs)) (hn : (assignEach es X.env).length = n := by rfl) (hst : (assignEach es X.env).findIdx? (·.1) = none := by rfl) : PG X (.Tuple es k pos) (tDG X.K l (gDTup n gs)) :=
  PG.imp (pg_tup hc h hn hst) fun v σ H Q ⟨B, M, Γ, d, S, r, h⟩ => by
    unfold gDTup at h
    cases r with
    | tup hs rs =>
      dsimp only at h
      rename_i ds _
      by_cases hl : ds.length = n
      · rw [if_pos hl] at h
        exact ⟨_, _, rfl, Evl.st_of (hid_of hs).2, by rw [rs.length]; exact hl, B, M, Γ, ds, S, rs, h⟩
      · rw [if_neg hl] at h
        exact h.elim
    | _ => exact h.elim
theorem dg_lst {k : Nat} {l : List Nat} (hc : X.calm = true) (h : PGs X es (tDGs X.K l gs)) (hn : (assignEach es X.env).length = n := by rfl) (hst : (assignEach es X.env).findIdx? (·.1) = none := by rfl) : PG X (.Tuple es k pos) (tDG X.K l (gDLst n gs)) :=
  PG.imp (pg_lst hc h hn hst) fun v σ H Q ⟨B, M, Γ, d, S, r, h⟩ => by
    unfold gDLst at h
    cases r with
    | lst hs rs =>
      dsimp only at h
      rename_i ds _
      by_cases hl : ds.length = n
      · rw [if_pos hl] at h
        exact ⟨_, _, rfl, Evl.sq_of (hid_of hs).2, by rw [rs.length]; exact hl, B, M, Γ, ds, S, rs, h⟩
      · rw [if_neg hl] at h
        exact h.elim
    | _ => exact h.elim
/-- a, b = e -/
def dAsg (g : D → Gm → Option Gm) (fe : EM Sl) : SM := dThen fe fun v Γ => match g v.d Γ with
  | some Γ' => .nx Γ'
  | none => .no
theorem ds_asg {tg : Expr} {l : List Nat} (he : PE X e (tD X.K W fe)) (hg : PG X tg (tDG X.K l g)) (hs : swapsWithSole [tg] e pos.line X.env = pure false := by rfl) (hw : swappedStores [tg] e X.env = pure none := by rfl)
    (h1 : (assignEach [tg] X.env).map (·.2) = [assign tg X.env] := by rfl) : PS X (.Assign [tg] e pos) (tS X.K W (dAsg g fe)) := by
  refine PS.imp (ps_asg he hg hs hw h1) fun D σ H ⟨B, M, Γ, S, h⟩ => ?_
  refine fin_then S h (fun _ _ _ _ _ z => z σ) fun v Γ1 v1 H1 M1 ev q z => ?_
  refine ⟨B, M1, Γ1, v.d, q.dat.1, q.dat.2.2, ?_⟩
  cases e1 : g v.d Γ1 with
  | none => rw [e1] at z; exact z.elim
  | some Γ' =>
    rw [e1] at z
    exact fun σ' _ S' => z σ' H1 M1 S' q.dat.2.1
end
end Dl
end
section
set_option maxHeartbeats 4000000
/-! Loops and comprehensions over data. -/
namespace Dl
variable [Tabl]
open PySem PySem.Spec PyProof.Rows L2 Tx He
open Evl (Ex)
/-- what an iterator yields, in whatever heap -/
def Yields (K : PySem.W.Frag) (M : List Addr) (H : Hp) (J : It) (ds : List D) : Prop := ∀ H2 M2, Ex (hid H M) (hid H2 M2) → Dm M2 H2 → ∀ i : Nat, (i < ds.length → J.go i H2) ∧ (ds.length ≤ i → J.stop i H2) ∧
  ∀ x H3 d, ds[i]? = some d → J.yld i H2 x H3 → Ex H2 H3 ∧ Rep K (hid H3 M2) x d
def tDI (K : PySem.W.Frag) (W : WX) (f : EM (List D)) : TI := fun σ H R => ∃ B M Γ, SR K B M Γ σ H ∧ match f Γ with
  | .ok ds Γ' => ∀ J H' M', SR K B M' Γ' σ H' → Ex (hid H M) (hid H' M') → Yields K M' H' J ds → R J H'
  | .exc c fs Γ' => Fail K W B σ c fs Γ'
  | .no => False
theorem PI.imp {X : Cx} {tg e : Expr} {t t' : TI} (h : PI X tg e t) (k : ∀ σ H R, t' σ H R → t σ H R) : PI X tg e t' := ⟨fun pins s σ H R I q => h.run pins s σ H R I (k σ H R q)⟩
def dItL (f : EM Sl) : EM (List D) := f.bind fun x => EM.opt (match x.d with | .lst ds => some ds | _ => none)
def dItT (f : EM Sl) : EM (List D) := f.bind fun x => EM.opt (match x.d with | .tup ds => some ds | _ => none)
def dItS (f : EM Sl) : EM (List D) := f.bind fun x => EM.opt (match x.d with | .str z => some (z.cps.toList.map fun c => .str ⟨#[c]⟩) | _ => none)
def rngD (lo : Int) (n : Nat) : List D := (List.range n).map fun (i : Nat) => .int (lo + i)
/-- i < j, decided so that the kernel never counts a great number down -/
def ltD (i j : Int) : Decidable (i < j) := match i, j with
  | .ofNat a, .ofNat b => if h : a < b then isTrue (Int.ofNat_lt.mpr h) else isFalse fun h2 => h (Int.ofNat_lt.mp h2)
  | .negSucc a, .ofNat b => isTrue (Int.lt_of_lt_of_le (Int.negSucc_lt_zero a) (Int.natCast_nonneg b))
  | .ofNat a, .negSucc b => isFalse fun h => absurd (Int.lt_of_le_of_lt (Int.natCast_nonneg a) h) (Int.not_lt.mpr (Int.le_of_lt (Int.negSucc_lt_zero b)))
  | .negSucc a, .negSucc b => if h : b < a then isTrue (by omega) else isFalse (by omega)
def rng1 : List D → Option (List D)
  | [.int j] => @ite _ (-(2 ^ 62) ≤ j ∧ j < 2 ^ 62) (@instDecidableAnd _ _ _ (ltD _ _)) (some (rngD 0 j.toNat)) none
  | _ => none
def rng2 : List D → Option (List D)
  | [.int i, .int j] => @ite _ (-(2 ^ 62) ≤ i ∧ i < 2 ^ 62 ∧ -(2 ^ 62) ≤ j ∧ j < 2 ^ 62) (@instDecidableAnd _ _ _ (@instDecidableAnd _ _ (ltD _ _) (@instDecidableAnd _ _ _ (ltD _ _)))) (some (rngD i (j - i).toNat)) none
  | _ => none
def zip2 : List D → Option (List D)
  | [.lst xs, .lst ys] => some ((xs.zip ys).map fun p => .tup [p.1, p.2])
  | [.tup xs, .tup ys] => some ((xs.zip ys).map fun p => .tup [p.1, p.2])
  | _ => none
def enumD (n : Nat) : List D → List D
  | [] => []
  | d :: ds => .tup [.int (n : Int), d] :: enumD (n + 1) ds
def enum1 : List D → Option (List D)
  | [.lst xs] => some (enumD 0 xs)
  | _ => none
def dItA (g : List D → Option (List D)) (ga : EM (List Ar)) : EM (List D) := ga.bind fun as => EM.opt ((dats as).bind g)
theorem rngD_len (lo : Int) (n : Nat) : (rngD lo n).length = n := by simp [rngD]
theorem rngD_get {lo : Int} {n i : Nat} {d : D} (h : (rngD lo n)[i]? = some d) : d = .int (lo + i) := by
  unfold rngD at h
  rw [List.getElem?_map] at h
  cases e : (List.range n)[i]? with
  | none => rw [e] at h; cases h
  | some j =>
    rw [e] at h
    cases h
    rw [List.getElem?_eq_some_iff] at e
    obtain ⟨hi, e⟩ := e
    rw [List.getElem_range] at e
    rw [e]
theorem enumD_len : ∀ (n : Nat) (ds : List D), (enumD n ds).length = ds.length
  | _, [] => rfl
  | n, d :: ds => congrArg Nat.succ (enumD_len (n + 1) ds)
theorem enumD_get : ∀ {n i : Nat} {ds : List D} {d : D}, (enumD n ds)[i]? = some d → ∃ e, ds[i]? = some e ∧ d = .tup [.int ((n + i : Nat) : Int), e]
  | n, _, [], d, h => by simp [enumD] at h
  | n, 0, d0 :: ds, d, h => by
    simp [enumD] at h
    exact ⟨d0, rfl, by rw [← h]; simp⟩
  | n, i + 1, d0 :: ds, d, h => by
    obtain ⟨e, h1, h2⟩ := enumD_get (n := n + 1) (i := i) (ds := ds) (by simpa [enumD] using h)
    exact ⟨e, by simpa using h1, by rw [h2, show n + 1 + i = n + (i + 1) by omega]⟩
section
variable {K : PySem.W.Frag} {M : List Addr} {H : Hp}
theorem reps_lt {vs : List V} {ds : List D} {i : Nat} (r : Reps K H vs ds) (h : i < ds.length) : ∃ x, vs[i]? = some x := by
  have hl := r.length
  exact ⟨vs[i], List.getElem?_eq_getElem (by omega)⟩
theorem yields_list {a : Addr} {vs : List V} {ds : List D} (hs : SqL K (hid H M) a vs) (r : Reps K (hid H M) vs ds) : Yields K M H (Itl K a) ds := fun H2 M2 ex dm i => by
  have hs2 : SqL K H2 a vs := Evl.ex_l hid_ex (Evl.ex_l ex hs)
  have hl := r.length
  refine ⟨fun hi => ?_, fun hi => ⟨vs, hs2, by omega⟩, fun x H3 d hd hy => ?_⟩
  · obtain ⟨x, e⟩ := reps_lt r hi
    exact ⟨vs, x, hs2, e⟩
  · obtain ⟨rfl, hy⟩ := hy
    obtain ⟨y, e1, e2⟩ := r.at hd
    have := hy vs hs2
    rw [e1] at this
    cases this
    exact ⟨Evl.Ex.refl _, e2.mono ex⟩
theorem yields_tup {a : Addr} {vs : List V} {ds : List D} (hs : SqT K (hid H M) a vs) (r : Reps K (hid H M) vs ds) : Yields K M H (Itt K a) ds := fun H2 M2 ex dm i => by
  have hs2 : SqT K H2 a vs := Evl.ex_t hid_ex (Evl.ex_t ex hs)
  have hl := r.length
  refine ⟨fun hi => ?_, fun hi => ⟨vs, hs2, by omega⟩, fun x H3 d hd hy => ?_⟩
  · obtain ⟨x, e⟩ := reps_lt r hi
    exact ⟨vs, x, hs2, e⟩
  · obtain ⟨rfl, hy⟩ := hy
    obtain ⟨y, e1, e2⟩ := r.at hd
    have := hy vs hs2
    rw [e1] at this
    cases this
    exact ⟨Evl.Ex.refl _, e2.mono ex⟩
theorem yields_rng {lo : Int} {n : Nat} : Yields K M H (Itr lo n) (rngD lo n) := fun H2 M2 ex dm i => by
  refine ⟨fun hi => ?_, fun hi => ?_, fun x H3 d hd hy => ?_⟩
  · rw [rngD_len] at hi; exact hi
  · rw [rngD_len] at hi; exact hi
  · obtain ⟨rfl, rfl⟩ := hy
    rw [rngD_get hd]
    exact ⟨Evl.Ex.refl _, .int _⟩
theorem yields_str {z : Str} : Yields K M H (Its z) (z.cps.toList.map fun c => .str ⟨#[c]⟩) := fun H2 M2 ex dm i => by
  have hl : (z.cps.toList.map fun c => D.str ⟨#[c]⟩).length = z.cps.size := by simp
  refine ⟨fun hi => ?_, fun hi => ?_, fun x H3 d hd hy => ?_⟩
  · rw [hl] at hi; exact hi
  · rw [hl] at hi; exact hi
  · obtain ⟨rfl, c, e1, rfl⟩ := hy
    rw [List.getElem?_map] at hd
    have e2 : z.cps.toList[i]? = some c := by rw [Array.getElem?_toList]; exact e1
    rw [e2] at hd
    cases hd
    exact ⟨Evl.Ex.refl _, .str _⟩
theorem yields_enum {a : Addr} {vs : List V} {ds : List D} (hs : SqL K (hid H M) a vs) (r : Reps K (hid H M) vs ds) : Yields K M H (Ite K a) (enumD 0 ds) := fun H2 M2 ex dm i => by
  have hs2 : SqL K H2 a vs := Evl.ex_l hid_ex (Evl.ex_l ex hs)
  have hl := r.length
  refine ⟨fun hi => ?_, fun hi => ⟨vs, hs2, by rw [enumD_len] at hi; omega⟩, fun x H3 d hd hy => ?_⟩
  · rw [enumD_len] at hi
    obtain ⟨x, e⟩ := reps_lt r hi
    exact ⟨vs, x, hs2, e⟩
  · obtain ⟨T, y, rfl, hT, rfl, hy⟩ := hy
    obtain ⟨e, h1, rfl⟩ := enumD_get hd
    obtain ⟨u, e1, e2⟩ := r.at h1
    have eu := Option.some.inj (e1.symm.trans (hy vs hs2))
    subst eu
    have n := new_tup (K := K) dm hT (vs := [.int (i : Nat), u]) (ds := [.int ((0 + i : Nat) : Int), e]) (.cons (by rw [Nat.zero_add]; exact .int _) (.cons (e2.mono ex) .nil))
    exact ⟨Evl.Ex.new hT, n.2⟩
theorem zip_get {xs ys : List D} {i : Nat} {d : D} (h : ((xs.zip ys).map fun p => D.tup [p.1, p.2])[i]? = some d) : ∃ x y, xs[i]? = some x ∧ ys[i]? = some y ∧ d = .tup [x, y] := by
  rw [List.getElem?_map] at h
  cases e : (xs.zip ys)[i]? with
  | none => rw [e] at h; cases h
  | some p =>
    rw [e] at h
    cases h
    rw [List.getElem?_zip_eq_some] at e
    exact ⟨p.1, p.2, e.1, e.2, rfl⟩
theorem yields_zip {a b : Addr} {vs us : List V} {ds es : List D} (hs : SqL K (hid H M) a vs) (r : Reps K (hid H M) vs ds) (hs' : SqL K (hid H M) b us) (r' : Reps K (hid H M) us es) : Yields K M H (Itz K a b) ((ds.zip es).map fun p => .tup [p.1, p.2]) := fun H2 M2 ex dm i => by
  have hs2 : SqL K H2 a vs := Evl.ex_l hid_ex (Evl.ex_l ex hs)
  have hs2' : SqL K H2 b us := Evl.ex_l hid_ex (Evl.ex_l ex hs')
  have hl := r.length
  have hl' := r'.length
  have hz : ((ds.zip es).map fun p => D.tup [p.1, p.2]).length = min ds.length es.length := by simp
  refine ⟨fun hi => ?_, fun hi => ⟨vs, us, hs2, hs2', by rw [hz] at hi; omega⟩, fun x H3 d hd hy => ?_⟩
  · rw [hz] at hi
    obtain ⟨x, e⟩ := reps_lt r (show i < ds.length by omega)
    obtain ⟨y, e'⟩ := reps_lt r' (show i < es.length by omega)
    exact ⟨vs, us, x, y, hs2, hs2', e, e'⟩
  · obtain ⟨T, y, y', rfl, hT, rfl, hy, hy'⟩ := hy
    obtain ⟨d1, d2, h1, h2, rfl⟩ := zip_get hd
    obtain ⟨u, e1, e2⟩ := r.at h1
    obtain ⟨u', e1', e2'⟩ := r'.at h2
    have eu := Option.some.inj (e1.symm.trans (hy vs hs2))
    have eu' := Option.some.inj (e1'.symm.trans (hy' us hs2'))
    subst eu eu'
    have n := new_tup (K := K) dm hT (vs := [u, u']) (ds := [d1, d2]) (.cons (e2.mono ex) (.cons (e2'.mono ex) .nil))
    exact ⟨Evl.Ex.new hT, n.2⟩
theorem yields_zipT {a b : Addr} {vs us : List V} {ds es : List D} (hs : SqT K (hid H M) a vs) (r : Reps K (hid H M) vs ds) (hs' : SqT K (hid H M) b us) (r' : Reps K (hid H M) us es) : Yields K M H (RZ.ItzT K a b) ((ds.zip es).map fun p => .tup [p.1, p.2]) := fun H2 M2 ex dm i => by
  have hs2 : SqT K H2 a vs := Evl.ex_t hid_ex (Evl.ex_t ex hs)
  have hs2' : SqT K H2 b us := Evl.ex_t hid_ex (Evl.ex_t ex hs')
  have hl := r.length
  have hl' := r'.length
  have hz : ((ds.zip es).map fun p => D.tup [p.1, p.2]).length = min ds.length es.length := by simp
  refine ⟨fun hi => ?_, fun hi => ⟨vs, us, hs2, hs2', by rw [hz] at hi; omega⟩, fun x H3 d hd hy => ?_⟩
  · rw [hz] at hi
    obtain ⟨x, e⟩ := reps_lt r (show i < ds.length by omega)
    obtain ⟨y, e'⟩ := reps_lt r' (show i < es.length by omega)
    exact ⟨vs, us, x, y, hs2, hs2', e, e'⟩
  · obtain ⟨T, y, y', rfl, hT, rfl, hy, hy'⟩ := hy
    obtain ⟨d1, d2, h1, h2, rfl⟩ := zip_get hd
    obtain ⟨u, e1, e2⟩ := r.at h1
    obtain ⟨u', e1', e2'⟩ := r'.at h2
    have eu := Option.some.inj (e1.symm.trans (hy vs hs2))
    have eu' := Option.some.inj (e1'.symm.trans (hy' us hs2'))
    subst eu eu'
    have n := new_tup (K := K) dm hT (vs := [u, u']) (ds := [d1, d2]) (.cons (e2.mono ex) (.cons (e2'.mono ex) .nil))
    exact ⟨Evl.Ex.new hT, n.2⟩
end
section
variable {X : Cx} {W : WX} {tg l a b : Expr} {fl : EM Sl} {gx : EM (List Ar)} {p pos : Pos}
theorem di_list (hl : PE X l (tD X.K W fl)) : PI X tg l (tDI X.K W (dItL fl)) := by
  refine PI.imp (pi_list hl) fun σ H R ⟨B, M, Γ, S, h⟩ => tD_use S ?_
  unfold dItL EM.bind at h
  cases e : fl Γ with
  | no => rw [e] at h; exact h
  | exc c fs g => rw [e] at h; exact h
  | ok x Γ1 =>
    rw [e] at h
    intro v H1 M1 S1 e1 r1
    dsimp only [EM.opt] at h
    cases hx : x.d with
    | lst ds =>
      rw [hx] at h r1
      cases r1 with
      | lst hs rs => exact ⟨_, rfl, ⟨_, Evl.sq_of (hid_of hs).2⟩, h _ H1 M1 S1 e1 (yields_list (Evl.sq_of hs) rs)⟩
    | _ => rw [hx] at h; exact h.elim
theorem di_tup (hl : PE X l (tD X.K W fl)) : PI X tg l (tDI X.K W (dItT fl)) := by
  refine PI.imp (pi_tup hl) fun σ H R ⟨B, M, Γ, S, h⟩ => tD_use S ?_
  unfold dItT EM.bind at h
  cases e : fl Γ with
  | no => rw [e] at h; exact h
  | exc c fs g => rw [e] at h; exact h
  | ok x Γ1 =>
    rw [e] at h
    intro v H1 M1 S1 e1 r1
    dsimp only [EM.opt] at h
    cases hx : x.d with
    | tup ds =>
      rw [hx] at h r1
      cases r1 with
      | tup hs rs => exact ⟨_, rfl, ⟨_, Evl.st_of (hid_of hs).2⟩, h _ H1 M1 S1 e1 (yields_tup (Evl.st_of hs) rs)⟩
    | _ => rw [hx] at h; exact h.elim
theorem di_str (hl : PE X l (tD X.K W fl)) : PI X tg l (tDI X.K W (dItS fl)) := by
  refine PI.imp (pi_str hl) fun σ H R ⟨B, M, Γ, S, h⟩ => tD_use S ?_
  unfold dItS EM.bind at h
  cases e : fl Γ with
  | no => rw [e] at h; exact h
  | exc c fs g => rw [e] at h; exact h
  | ok x Γ1 =>
    rw [e] at h
    intro v H1 M1 S1 e1 r1
    dsimp only [EM.opt] at h
    cases hx : x.d with
    | str z =>
      rw [hx] at h r1
      cases r1 with
      | str _ => exact ⟨z, rfl, h _ H1 M1 S1 e1 yields_str⟩
    | _ => rw [hx] at h; exact h.elim
theorem q_it {K : PySem.W.Frag} {g : List D → Option (List D)} {σ : L2.St} {H : Hp} {R : It → Hp → Prop} {P : List V → Hp → Prop} (h : tDI K W (dItA g gx) σ H R)
    (k : ∀ vs H1 M1 ds es, Reps K (hid H1 M1) vs ds → g ds = some es → (∀ J, Yields K M1 H1 J es → R J H1) → P vs H1) : tDA K W gx σ H P := by
  obtain ⟨B, M, Γ, S, h⟩ := h
  refine ⟨B, M, Γ, S, ?_⟩
  unfold dItA EM.bind at h
  cases e : gx Γ with
  | no => rw [e] at h; exact h
  | exc c fs g => rw [e] at h; exact h
  | ok as Γ1 =>
    rw [e] at h
    intro vs H1 M1 S1 e1 av
    dsimp only [EM.opt] at h
    cases hd : dats as with
    | none => rw [hd] at h; exact h.elim
    | some ds =>
      rw [hd] at h
      simp only [Option.bind_some] at h
      cases hg : g ds with
      | none => rw [hg] at h; exact h.elim
      | some es =>
        rw [hg] at h
        exact k vs H1 M1 ds es (av.dats hd) hg fun J y => h J H1 M1 S1 e1 y
theorem di_range1 (hg : Gl X "range") (hm : X.mg "range" = none) (ha : PA X [a] (tDA X.K W gx)) (hs : starEach [a] X.env = [(false, eval a X.env)] := by rfl) : PI X tg (.Call (.Name "range" p) [a] [] pos) (tDI X.K W (dItA rng1 gx)) :=
  PI.imp (pi_range1 hg hm ha hs) fun σ H R h => q_it h fun vs H1 M1 ds es r hg k => by
    unfold rng1 at hg
    split at hg
    · rename_i j
      split at hg
      · rename_i hj
        cases hg
        cases r with
        | cons r1 r2 =>
          cases r1
          cases r2
          exact ⟨j, rfl, hj.1, hj.2, k _ yields_rng⟩
      · cases hg
    · cases hg
theorem di_range2 (hg : Gl X "range") (hm : X.mg "range" = none) (ha : PA X [a, b] (tDA X.K W gx)) (hs : starEach [a, b] X.env = [(false, eval a X.env), (false, eval b X.env)] := by rfl) (hs2 : starEach [b] X.env = [(false, eval b X.env)] := by rfl) : PI X tg (.Call (.Name "range" p) [a, b] [] pos) (tDI X.K W (dItA rng2 gx)) :=
  PI.imp (pi_range2 hg hm ha hs hs2) fun σ H R h => q_it h fun vs H1 M1 ds es r hg k => by
    unfold rng2 at hg
    split at hg
    · rename_i i j
      split at hg
      · rename_i hj
        cases hg
        cases r with
        | cons r1 r2 =>
          cases r1
          cases r2 with
          | cons r2 r3 =>
            cases r2
            cases r3
            exact ⟨i, j, rfl, hj, k _ yields_rng⟩
      · cases hg
    · cases hg
theorem di_zip {elts : List Expr} {kk : Nat} {tpos : Pos} (hg : Gl X "zip") (hm : X.mg "zip" = none) (ha : PA X [a, b] (tDA X.K W gx)) (hs : starEach [a, b] X.env = (false, eval a X.env) :: starEach [b] X.env := by rfl) (hpl : (backTo pos (starEach [b] X.env)).any (·.1) = false := by rfl) : PI X (.Tuple elts kk tpos) (.Call (.Name "zip" p) [a, b] [] pos) (tDI X.K W (dItA zip2 gx)) :=
  PI.imp (RZ.pi_zipA hg hm ha hs hpl) fun σ H R h => q_it h fun vs H1 M1 ds es r hg k => by
    unfold zip2 at hg
    split at hg
    · cases hg
      cases r with
      | cons r1 r2 =>
        cases r1 with
        | lst s1 t1 =>
          cases r2 with
          | cons r2 r3 =>
            cases r2 with
            | lst s2 t2 =>
              cases r3
              exact ⟨_, _, _, _, rfl, .inl ⟨Evl.sq_of (hid_of s1).2, Evl.sq_of (hid_of s2).2, k _ (yields_zip (Evl.sq_of s1) t1 (Evl.sq_of s2) t2)⟩⟩
    · cases hg
      cases r with
      | cons r1 r2 =>
        cases r1 with
        | tup s1 t1 =>
          cases r2 with
          | cons r2 r3 =>
            cases r2 with
            | tup s2 t2 =>
              cases r3
              exact ⟨_, _, _, _, rfl, .inr ⟨Evl.st_of (hid_of s1).2, Evl.st_of (hid_of s2).2, k _ (yields_zipT (Evl.st_of s1) t1 (Evl.st_of s2) t2)⟩⟩
    · cases hg
theorem di_enum {elts : List Expr} {kk : Nat} {tpos : Pos} (hg : Gl X "enumerate") (hm : X.mg "enumerate" = none) (ha : PA X [a] (tDA X.K W gx)) (hs : starEach [a] X.env = [(false, eval a X.env)] := by rfl) : PI X (.Tuple elts kk tpos) (.Call (.Name "enumerate" p) [a] [] pos) (tDI X.K W (dItA enum1 gx)) :=
  PI.imp (pi_enum hg hm ha hs) fun σ H R h => q_it h fun vs H1 M1 ds es r hg k => by
    unfold enum1 at hg
    split at hg
    · cases hg
      cases r with
      | cons r1 r2 =>
        cases r1 with
        | lst s1 t1 =>
          cases r2
          exact ⟨_, _, rfl, Evl.sq_of (hid_of s1).2, k _ (yields_enum (Evl.sq_of s1) t1)⟩
    · cases hg
end
/-! ### for -/
def forL (g : D → Gm → Option Gm) (body : SM) : List D → SM
  | [], Γ => .nx Γ
  | d :: ds, Γ => match g d Γ with
    | none => .no
    | some Γ1 => match body Γ1 with
      | .nx Γ2 => forL g body ds Γ2
      | .ct Γ2 => forL g body ds Γ2
      | .bk Γ2 => .nx Γ2
      | r => r
def dFor (it : EM (List D)) (g : D → Gm → Option Gm) (body : SM) : SM := dThen it fun ds => forL g body ds
theorem ds_for {X : Cx} {W : WX} {tg iter : Expr} {body : List Stmt} {f : EM (List D)} {g : D → Gm → Option Gm} {b : SM} {pos : Pos} {l : List Nat} (hp : PassesOwn (model X.prog X.w) X.A X.env X.xe) (hc : X.calm = true) (hi : PI X tg iter (tDI X.K W f)) (hg : PG X tg (tDG X.K l g)) (hb : PSs X body (tS X.K W b))
    (hs : ∀ x, foldedSetIterable iter X.env x = pure x := by intro _; rfl) : PS X (.For tg iter body [] pos) (tS X.K W (dFor f g b)) := by
  refine PS.imp (ps_for hp hc hi hg hb hs) fun D σ H ⟨B, M, Γ, S, h⟩ => ⟨B, M, Γ, S, ?_⟩
  unfold dFor dThen at h
  cases e : f Γ with
  | no => rw [e] at h; exact h
  | exc c fs g => rw [e] at h; exact h σ
  | ok ds Γ1 =>
    rw [e] at h
    intro J H1 M1 S1 e1 yl
    refine ⟨fun i m σ' H' => m = ds.length - i ∧ i ≤ ds.length ∧ ∃ M' Γ', SR X.K B M' Γ' σ' H' ∧ Ex (hid H1 M1) (hid H' M') ∧ Fin X.K W B M' H' D (forL g b (ds.drop i) Γ'), ⟨ds.length, by omega, by omega, M1, Γ1, S1, Evl.Ex.refl _, h.mono e1⟩, ?_⟩
    rintro i m σ2 H2 ⟨hm, hi, M2, Γ2, S2, e2, h2⟩
    obtain ⟨y1, y2, y3⟩ := yl H2 M2 e2 S2.dm i
    by_cases hil : i < ds.length
    · refine .inr ⟨y1 hil, fun σ3 H3 => ∃ M' Γ', SR X.K B M' Γ' σ3 H3 ∧ Ex (hid H1 M1) (hid H3 M') ∧ Fin X.K W B M' H3 D (forL g b (ds.drop (i + 1)) Γ'), fun σ3 H3 hN => ⟨ds.length - (i + 1), by omega, rfl, by omega, hN⟩, fun x H3 hy => ?_⟩
      have hd : ds[i]? = some ds[i] := List.getElem?_eq_getElem hil
      obtain ⟨x1, x2⟩ := y3 x H3 ds[i] hd hy
      have dr : ds.drop i = ds[i] :: ds.drop (i + 1) := List.drop_eq_getElem_cons hil
      rw [dr] at h2
      unfold forL at h2
      refine ⟨B, M2, Γ2, ds[i], S2.ext x1, x2, ?_⟩
      cases eg : g ds[i] Γ2 with
      | none => rw [eg] at h2; exact h2
      | some Γ3 =>
        rw [eg] at h2
        dsimp only at h2
        intro σ4 _ S4
        refine ⟨B, M2, Γ3, S4, ?_⟩
        have e23 : Ex (hid H1 M1) (hid H3 M2) := e2.trans (hid_mono x1)
        have h3 := h2.mono (hid_mono x1)
        cases eb : b Γ3 with
        | nx Γ4 =>
          rw [eb] at h3
          exact fun σ5 H5 M5 S5 x5 => ⟨M5, Γ4, S5, e23.trans x5, h3.mono x5⟩
        | ct Γ4 =>
          rw [eb] at h3
          exact fun σ5 H5 M5 S5 x5 => ⟨M5, Γ4, S5, e23.trans x5, h3.mono x5⟩
        | bk Γ4 => rw [eb] at h3; exact h3
        | rt r Γ4 => rw [eb] at h3; exact h3
        | exc c fs Γ4 => rw [eb] at h3; exact h3
        | no => rw [eb] at h3; exact h3
    · have hie : i = ds.length := by omega
      refine .inl ⟨y2 (by omega), ?_⟩
      rw [hie, List.drop_length] at h2
      exact h2 σ2 H2 M2 S2 (Evl.Ex.refl _)
end Dl
end
section
set_option maxHeartbeats 4000000
/-! List comprehensions over data. -/
namespace Dl
variable [Tabl]
open PySem PySem.Spec PyProof.Rows L2 Tx He
open Evl (Ex)
def wipeG (Γ : Gm) : List Nat → Gm
  | [] => Γ
  | v :: vs => (wipeG Γ vs).set v none
def toP : Option Sl → Option Sl
  | some (.own d) => some (.par d)
  | s => s
def toPar (Γ : Gm) : Gm := Γ.map toP
def frP : Option Sl → Option Sl → Option Sl
  | some (.own _), some (.par d) => some (.own d)
  | _, some (.own _) => none
  | _, s => s
def fromPar (Γ0 Γ' : Gm) : Gm := List.zipWith frP Γ0 Γ'
theorem wipeG_length (Γ : Gm) : ∀ vs : List Nat, (wipeG Γ vs).length = Γ.length
  | [] => rfl
  | v :: vs => by unfold wipeG; rw [List.length_set, wipeG_length Γ vs]
theorem wipeG_some {Γ : Gm} {i : Nat} {x : Sl} : ∀ {vs : List Nat}, (wipeG Γ vs)[i]? = some (some x) → Γ[i]? = some (some x) ∧ i ∉ vs
  | [], h => ⟨h, by simp⟩
  | v :: vs, h => by
    unfold wipeG at h
    by_cases hi : v = i
    · subst hi
      by_cases hv : v < (wipeG Γ vs).length
      · rw [List.getElem?_set_self hv] at h; cases h
      · rw [List.getElem?_eq_none (by simpa using hv)] at h; cases h
    · rw [List.getElem?_set_ne hi] at h
      obtain ⟨h1, h2⟩ := wipeG_some h
      exact ⟨h1, by simp only [List.mem_cons, not_or]; exact ⟨fun e => hi e.symm, h2⟩⟩
theorem wipe_get {σ : L2.St} {i : Nat} : ∀ {vs : List Nat}, i ∉ vs → (wipe σ vs)[i]? = σ[i]?
  | [], _ => rfl
  | v :: vs, h => by
    unfold wipe
    rw [List.getElem?_set_ne (fun (e : v = i) => h (by rw [e]; exact List.mem_cons_self ..))]
    exact wipe_get fun z => h (List.mem_cons_of_mem _ z)
theorem wipe_in {σ : L2.St} {i : Nat} : ∀ {vs : List Nat}, i ∈ vs → i < σ.length → (wipe σ vs)[i]? = some none
  | v :: vs, h, hl => by
    unfold wipe
    by_cases e : v = i
    · subst e
      rw [List.getElem?_set_self (by rw [wipe_length]; exact hl)]
    · rw [List.getElem?_set_ne e]
      rcases List.mem_cons.mp h with z | z
      · exact absurd z.symm e
      · exact wipe_in z hl
theorem wipe_eq {σ σ' : L2.St} {l vs : List Nat} (hl : ∀ j ∈ l, j ∈ vs) (t : Tch l (wipe σ vs) σ') : wipe σ' vs = wipe σ vs := by
  apply List.ext_getElem?
  intro j
  have len : σ'.length = σ.length := t.1.trans (wipe_length σ vs)
  by_cases hj : j ∈ vs
  · by_cases hs : j < σ.length
    · rw [wipe_in hj (by omega), wipe_in hj hs]
    · rw [List.getElem?_eq_none (by rw [wipe_length]; omega), List.getElem?_eq_none (by rw [wipe_length]; omega)]
  · rw [wipe_get hj, t.2 j fun z => hj (hl j z)]
section
variable {K : PySem.W.Frag} {B : Bs} {M M' : List Addr} {Γ Γ' : Gm} {σ σ' : L2.St} {H H' : Hp} {p : Addr}
/-- fewer slots, as they stand in σ' -/
theorem SR.less (S : SR K B M Γ σ H) (hl : Γ'.length = σ'.length) (h : ∀ (i : Nat) (s : Sl), Γ'[i]? = some (some s) → Γ[i]? = some (some s) ∧ σ'[i]? = σ[i]?) : SR K B M Γ' σ' H where
  dat := fun i d z => by
    obtain ⟨h1, h2⟩ := h i _ z
    rw [h2]
    exact S.dat i d h1
  own := fun i d z => by
    obtain ⟨h1, h2⟩ := h i _ z
    rw [h2]
    obtain ⟨p, e1, e2, e3, e4, e5⟩ := S.own i d h1
    refine ⟨p, e1, e2, e3, e4, fun j e zj ej => ?_⟩
    obtain ⟨g1, g2⟩ := h j _ zj
    rw [g2] at ej
    exact e5 j e g1 ej
  par := fun i d z => by
    obtain ⟨h1, h2⟩ := h i _ z
    rw [h2]
    exact S.par i d h1
  sub := S.sub
  dom := S.dom
  frm := S.frm
  len := hl
  bok := S.bok
  tab := S.tab
theorem SR.wipe {vs : List Nat} (S : SR K B M Γ σ H) : SR K B M (wipeG Γ vs) (L2.wipe σ vs) H := S.less (by rw [wipeG_length, wipe_length]; exact S.len) fun i s z => by
  obtain ⟨h1, h2⟩ := wipeG_some z
  exact ⟨h1, wipe_get h2⟩
theorem SR.unwipe {vs : List Nat} {σ2 : L2.St} (S : SR K B M Γ σ2 H) (e : L2.wipe σ2 vs = L2.wipe σ vs) : SR K B M (wipeG Γ vs) σ H := by
  have hl : σ2.length = σ.length := by
    have := congrArg List.length e
    rw [wipe_length, wipe_length] at this
    exact this
  refine S.less (by rw [wipeG_length, S.len, hl]) fun i s z => ?_
  obtain ⟨h1, h2⟩ := wipeG_some z
  refine ⟨h1, ?_⟩
  rw [← wipe_get (σ := σ) h2, ← e, wipe_get h2]
/-- where the held things stand -/
def paH (Γ : Gm) (σ : L2.St) : Nat → Option Addr := fun i => if (heldD Γ i).isSome = true then (match σ[i]? with | some (some (.ref p)) => some p | _ => none) else none
theorem held_iff {i : Nat} : held Γ i ↔ (heldD Γ i).isSome = true := by
  unfold held heldD
  constructor
  · rintro (⟨d, h⟩ | ⟨d, h⟩) <;> rw [h] <;> rfl
  · intro h
    split at h
    · rename_i d e; exact .inl ⟨d, e⟩
    · rename_i d e; exact .inr ⟨d, e⟩
    · cases h
theorem paH_some {i : Nat} (h : paH Γ σ i = some p) : held Γ i ∧ σ[i]? = some (some (.ref p)) := by
  unfold paH at h
  by_cases hh : (heldD Γ i).isSome = true
  · rw [if_pos hh] at h
    split at h
    · rename_i q e
      cases h
      exact ⟨held_iff.mpr hh, e⟩
    · cases h
  · rw [if_neg hh] at h
    cases h
theorem paH_of {i : Nat} (h : held Γ i) (e : σ[i]? = some (some (.ref p))) : paH Γ σ i = some p := by
  unfold paH
  rw [if_pos (held_iff.mp h)]
  simp only [e]
def inB (M : List Addr) (Γ : Gm) (σ : L2.St) (H : Hp) : Bs := ⟨M, paH Γ σ, H⟩
theorem toPar_get {i : Nat} : (toPar Γ)[i]? = Γ[i]?.map toP := List.getElem?_map ..
/-- into a turn: all that is held is as handed over -/
theorem SR.into (S : SR K B M Γ σ H) : SR K (inB M Γ σ H) M (toPar Γ) σ H := by
  have get : ∀ (i : Nat) (s : Sl), (toPar Γ)[i]? = some (some s) → ∃ s0, Γ[i]? = some (some s0) ∧ toP (some s0) = some s := fun i s h => by
    rw [toPar_get] at h
    cases e : Γ[i]? with
    | none => rw [e] at h; cases h
    | some o =>
      rw [e] at h
      cases o with
      | none => cases h
      | some s0 => exact ⟨s0, rfl, by simpa using h⟩
  exact {
    dat := fun i d h => by
      obtain ⟨s0, e1, e2⟩ := get i _ h
      cases s0 with
      | dat d0 => cases e2; exact S.dat i d e1
      | own d0 => cases e2
      | par d0 => cases e2
    own := fun i d h => by
      obtain ⟨s0, e1, e2⟩ := get i _ h
      cases s0 <;> cases e2
    par := fun i d h => by
      obtain ⟨s0, e1, e2⟩ := get i _ h
      cases s0 with
      | dat d0 => cases e2
      | own d0 =>
        cases e2
        obtain ⟨p, f1, f2, f3, f4, _⟩ := S.own i _ e1
        exact ⟨p, f1, paH_of (.inl ⟨_, e1⟩) f1, f4⟩
      | par d0 =>
        cases e2
        obtain ⟨p, f1, f2, f3⟩ := S.par i _ e1
        exact ⟨p, f1, paH_of (.inr ⟨_, e1⟩) f1, f3⟩
    sub := fun a h => h
    dom := S.dom
    frm := fun a o h _ _ => h
    len := by unfold toPar; rw [List.length_map]; exact S.len
    bok := {
      inj := fun i j p hi hj => by
        obtain ⟨a1, a2⟩ := paH_some hi
        obtain ⟨b1, b2⟩ := paH_some hj
        exact held_inj S a1 b1 a2 b2
      pin := fun i p hi => by
        obtain ⟨a1, a2⟩ := paH_some hi
        obtain ⟨q, d, b1, b2, _⟩ := held_at S a1
        rw [a2] at b1
        cases b1
        exact b2
      dom := S.dom }
    tab := S.tab }
theorem fromPar_get {i : Nat} {s : Sl} (h : (fromPar Γ Γ')[i]? = some (some s)) : ∃ o s', Γ[i]? = some o ∧ Γ'[i]? = some (some s') ∧ frP o (some s') = some s := by
  unfold fromPar at h
  rw [List.getElem?_zipWith] at h
  cases e1 : Γ[i]? with
  | none => rw [e1] at h; cases h
  | some o =>
    cases e2 : Γ'[i]? with
    | none => rw [e1, e2] at h; cases h
    | some o' =>
      rw [e1, e2] at h
      cases o' with
      | none =>
        exfalso
        simp only at h
        unfold frP at h
        cases o with
        | none => cases h
        | some z => cases z <;> cases h
      | some s' => exact ⟨o, s', rfl, rfl, by simpa using h⟩
/-- and back -/
theorem SR.back (S : SR K B M Γ σ H) (S' : SR K (inB M Γ σ H) M' Γ' σ' H') (hl : Γ'.length = Γ.length) : SR K B M' (fromPar Γ Γ') σ' H' := by
  have isP : ∀ (i : Nat) (d : D), Γ'[i]? = some (some (.par d)) → ∃ p, σ'[i]? = some (some (.ref p)) ∧ held Γ i ∧ σ[i]? = some (some (.ref p)) ∧ OwnAt K (hid H' M') H' p d := fun i d h => by
    obtain ⟨p, e1, e2, e3⟩ := S'.par i d h
    obtain ⟨a1, a2⟩ := paH_some e2
    exact ⟨p, e1, a1, a2, e3⟩
  have ownC : ∀ (i : Nat) (d : D), (fromPar Γ Γ')[i]? = some (some (.own d)) → (∃ d0, Γ[i]? = some (some (.own d0))) ∧ Γ'[i]? = some (some (.par d)) := fun i d h => by
    obtain ⟨o, s', e1, e2, e3⟩ := fromPar_get h
    cases s' with
    | dat d' => cases o with
      | none => cases e3
      | some z => cases z <;> cases e3
    | own d' => cases o with
      | none => cases e3
      | some z => cases z <;> cases e3
    | par d' => cases o with
      | none => cases e3
      | some z => cases z with
        | dat w => cases e3
        | par w => cases e3
        | own w => cases e3; exact ⟨⟨w, e1⟩, e2⟩
  exact {
    dat := fun i d h => by
      obtain ⟨o, s', e1, e2, e3⟩ := fromPar_get h
      cases s' with
      | dat d' =>
        have : d' = d := by
          cases o with
          | none => cases e3; rfl
          | some z => cases z <;> cases e3 <;> rfl
        subst this
        exact S'.dat i d' e2
      | own d' => cases o with
        | none => cases e3
        | some z => cases z <;> cases e3
      | par d' => cases o with
        | none => cases e3
        | some z => cases z <;> cases e3
    own := fun i d h => by
      obtain ⟨⟨d0, e0⟩, e2⟩ := ownC i d h
      obtain ⟨p, f1, f2, f3, f4⟩ := isP i d e2
      obtain ⟨q, g1, g2, g3, g4, g5⟩ := S.own i d0 e0
      rw [f3] at g1
      cases g1
      refine ⟨p, f1, S'.sub p g2, g3, f4, fun j e hj ej => ?_⟩
      obtain ⟨⟨d1, h0⟩, h2⟩ := ownC j e hj
      obtain ⟨p', k1, k2, k3, k4⟩ := isP j e h2
      rw [ej] at k1
      cases k1
      exact g5 j d1 h0 k3
    par := fun i d h => by
      obtain ⟨o, s', e1, e2, e3⟩ := fromPar_get h
      cases s' with
      | dat d' => cases o with
        | none => cases e3
        | some z => cases z <;> cases e3
      | own d' => cases o with
        | none => cases e3
        | some z => cases z <;> cases e3
      | par d' =>
        obtain ⟨p, f1, f2, f3, f4⟩ := isP i d' e2
        cases o with
        | none => rcases f2 with ⟨w, z⟩ | ⟨w, z⟩ <;> rw [e1] at z <;> cases z
        | some z => cases z with
          | dat w => rcases f2 with ⟨w, z⟩ | ⟨w, z⟩ <;> rw [e1] at z <;> cases z
          | own w => cases e3
          | par w =>
            cases e3
            obtain ⟨q, g1, g2, g3⟩ := S.par i w e1
            rw [f3] at g1
            cases g1
            exact ⟨p, f1, g2, f4⟩
    sub := fun a h => S'.sub a (S.sub a h)
    dom := S'.dom
    frm := fun a o h t n => S'.frm a o (S.frm a o h t n) t fun i z => by
      obtain ⟨a1, a2⟩ := paH_some z
      rcases a1 with ⟨d, w⟩ | ⟨d, w⟩
      · obtain ⟨p, f1, f2, f3, _⟩ := S.own i d w
        rw [a2] at f1
        cases f1
        exact f3 _ h t
      · obtain ⟨p, f1, f2, _⟩ := S.par i d w
        rw [a2] at f1
        cases f1
        exact n i f2
    len := by
      unfold fromPar
      rw [List.length_zipWith, hl, Nat.min_self, ← hl]
      exact S'.len
    bok := S.bok
    tab := S'.tab }
theorem held_back (h : held (fromPar Γ Γ') i) : held Γ i ∨ ∃ d, Γ'[i]? = some (some (.par d)) := by
  rcases h with ⟨d, h⟩ | ⟨d, h⟩
  · obtain ⟨o, s', e1, e2, e3⟩ := fromPar_get h
    cases s' with
    | par d' => exact .inr ⟨d', e2⟩
    | dat d' => cases o with
      | none => cases e3
      | some z => cases z <;> cases e3
    | own d' => cases o with
      | none => cases e3
      | some z => cases z <;> cases e3
  · obtain ⟨o, s', e1, e2, e3⟩ := fromPar_get h
    cases s' with
    | par d' => exact .inr ⟨d', e2⟩
    | dat d' => cases o with
      | none => cases e3
      | some z => cases z <;> cases e3
    | own d' => cases o with
      | none => cases e3
      | some z => cases z <;> cases e3
/-- a hidden thing that no slot holds is written -/
theorem SR.hidden (S : SR K B M Γ σ H) {o : HO} {va : List V} (hva : H p = some (.lst va)) (ho : NT o) (hm : p ∈ M) (h0 : Fre B.H0 p) (hn : ∀ i, held Γ i → σ[i]? ≠ some (some (.ref p))) : SR K B M Γ σ (upd H p o) ∧ Ex (hid H M) (hid (upd H p o) M) := by
  have ex : Ex (hid H M) (hid (upd H p o) M) := fun a u z => by
    obtain ⟨n, z, t⟩ := hid_ofT z
    have ne : a ≠ p := fun q => n (q ▸ hm)
    exact hid_at n (by rw [upd_ne ne]; exact z) t
  refine ⟨?_, ex⟩
  exact {
    dat := fun i d h => let ⟨v, h1, h2⟩ := S.dat i d h; ⟨v, h1, h2.mono ex⟩
    own := fun i d h => by
      obtain ⟨q, h1, h2, h3, h4, h5⟩ := S.own i d h
      have ne : q ≠ p := fun z => hn i (.inl ⟨d, h⟩) (z ▸ h1)
      exact ⟨q, h1, h2, h3, h4.mono ex (fun u z => by rw [upd_ne ne]; exact z), h5⟩
    par := fun i d h => by
      obtain ⟨q, h1, h2, h3⟩ := S.par i d h
      have ne : q ≠ p := fun z => hn i (.inr ⟨d, h⟩) (z ▸ h1)
      exact ⟨q, h1, h2, h3.mono ex (fun u z => by rw [upd_ne ne]; exact z)⟩
    sub := S.sub
    dom := fun a h => by
      by_cases ha : a = p
      · subst ha; exact ⟨_, upd_same, ho⟩
      · obtain ⟨u, q, w⟩ := S.dom a h
        exact ⟨u, by rw [upd_ne ha]; exact q, w⟩
    frm := fun a u h t n => by
      have ne : a ≠ p := fun z => by rw [z] at h; exact h0 _ h t
      rw [upd_ne ne]
      exact S.frm a u h t n
    len := S.len
    bok := S.bok
    tab := tabs_by S.tab fun b u hb k => by
      have ne : b ≠ p := fun z => by
        rw [z, hva] at hb
        cases hb
        rcases k with ⟨ps, k⟩ | ⟨φ, k⟩ <;> cases k
      rw [upd_ne ne]
      exact hb }
/-- .. and becomes a value -/
theorem SR.show (S : SR K B M Γ σ H) (hm : p ∈ M) (h0 : Fre B.H0 p) (hn : ∀ i, held Γ i → σ[i]? ≠ some (some (.ref p))) : SR K B (M.filter (· ≠ p)) Γ σ H ∧ SR K B (p :: M.filter (· ≠ p)) Γ σ H ∧ p ∉ M.filter (· ≠ p) ∧ hid H (p :: M.filter (· ≠ p)) = hid H M := by
  have sb : ∀ a, a ∈ M.filter (· ≠ p) → a ∈ M := fun a z => (List.mem_filter.mp z).1
  have pn : p ∉ M.filter (· ≠ p) := fun z => by simpa using (List.mem_filter.mp z).2
  have mem : ∀ a, a ∈ p :: M.filter (· ≠ p) ↔ a ∈ M := fun a => by
    constructor
    · intro z
      rcases List.mem_cons.mp z with z | z
      · subst z; exact hm
      · exact sb a z
    · intro z
      by_cases e : a = p
      · subst e; exact List.mem_cons_self ..
      · exact List.mem_cons_of_mem _ (List.mem_filter.mpr ⟨z, by simpa using e⟩)
  have eh : hid H (p :: M.filter (· ≠ p)) = hid H M := by
    funext a
    by_cases ha : a ∈ M
    · rw [hid_in ha, hid_in ((mem a).mpr ha)]
    · exact hid_eq (fun z => ha ((mem a).mp z)) ha rfl
  have ex : Ex (hid H M) (hid H (M.filter (· ≠ p))) := hid_sub sb
  have s0 : ∀ a ∈ B.M0, a ≠ p := fun a ha z => by
    obtain ⟨o, q, w⟩ := S.bok.dom a ha
    rw [z] at q
    exact h0 _ q w
  refine ⟨?_, ?_, pn, eh⟩
  · exact {
      dat := fun i d h => let ⟨v, h1, h2⟩ := S.dat i d h; ⟨v, h1, h2.mono ex⟩
      own := fun i d h => by
        obtain ⟨q, h1, h2, h3, h4, h5⟩ := S.own i d h
        have ne : q ≠ p := fun z => hn i (.inl ⟨d, h⟩) (z ▸ h1)
        exact ⟨q, h1, List.mem_filter.mpr ⟨h2, by simpa using ne⟩, h3, h4.mono ex (fun _ z => z), h5⟩
      par := fun i d h => by
        obtain ⟨q, h1, h2, h3⟩ := S.par i d h
        exact ⟨q, h1, h2, h3.mono ex (fun _ z => z)⟩
      sub := fun a ha => List.mem_filter.mpr ⟨S.sub a ha, by simpa using s0 a ha⟩
      dom := fun a h => S.dom a (sb a h)
      frm := S.frm
      len := S.len
      bok := S.bok
      tab := S.tab }
  · exact {
      dat := fun i d h => by rw [eh]; exact S.dat i d h
      own := fun i d h => by
        rw [eh]
        obtain ⟨q, h1, h2, h3, h4, h5⟩ := S.own i d h
        exact ⟨q, h1, (mem q).mpr h2, h3, h4, h5⟩
      par := fun i d h => by rw [eh]; exact S.par i d h
      sub := fun a ha => (mem a).mpr (S.sub a ha)
      dom := fun a h => S.dom a ((mem a).mp h)
      frm := S.frm
      len := S.len
      bok := S.bok
      tab := S.tab }
end
/-! ### the comprehension -/
def lcL (g : D → Gm → Option Gm) (tt : EM Bool) (te : EM Sl) (vs : List Nat) : List D → List D → Gm → Rs (List D)
  | [], acc, Γ => .ok acc Γ
  | d :: ds, acc, Γ => match g d (toPar (wipeG Γ vs)) with
    | none => .no
    | some Γ1 => match tt Γ1 with
      | .ok true Γ2 => (match te Γ2 with
        | .ok y Γ3 => if acc.length < sizeLine ∧ Γ3.length = Γ.length then lcL g tt te vs ds (acc ++ [y.d]) (wipeG (fromPar (wipeG Γ vs) Γ3) vs) else .no
        | _ => .no)
      | .ok false Γ2 => if Γ2.length = Γ.length then lcL g tt te vs ds acc (wipeG (fromPar (wipeG Γ vs) Γ2) vs) else .no
      | _ => .no
def dLc (it : EM (List D)) (g : D → Gm → Option Gm) (tt : EM Bool) (te : EM Sl) (vs : List Nat) : EM Sl := it.bind fun ds Γ => match lcL g tt te vs ds [] Γ with
  | .ok acc Γ' => .ok (.own (.lst acc)) Γ'
  | _ => .no
abbrev wBot : WX := wx fun _ _ _ => False
theorem q_lc {K : PySem.W.Frag} {W : WX} {f : EM (List D)} {g : D → Gm → Option Gm} {tt : EM Bool} {te : EM Sl} {vs l : List Nat} {σ : L2.St} {H : Hp} {Q : VK} (hv : ∀ j ∈ l, j ∈ vs) (h : tD K W (dLc f g tt te vs) σ H Q) :
    tLc (tDI K W f) (tDG K l g) (tDT K wBot tt) (tD K wBot te) vs σ H Q := by
  obtain ⟨B, M, Γ, S, h⟩ := h
  refine ⟨B, M, Γ, S, ?_⟩
  unfold dLc EM.bind at h
  cases e : f Γ with
  | no => rw [e] at h; exact h
  | exc c fs g => rw [e] at h; exact h
  | ok ds Γ1 =>
    rw [e] at h
    intro J H1 M1 S1 e1 yl Dd hD
    dsimp only at h
    obtain ⟨R, hR⟩ : ∃ R, R = lcL g tt te vs ds [] Γ1 := ⟨_, rfl⟩
    rw [← hR] at h
    refine ⟨fun i m H2 => m = ds.length - i ∧ i ≤ ds.length ∧ ∃ M2 Γ2 acc va, SR K B M2 Γ2 σ H2 ∧ Dd ∈ M2 ∧ (∀ j, held Γ2 j → σ[j]? ≠ some (some (.ref Dd))) ∧ H2 Dd = some (.lst va) ∧ Reps K (hid H2 M2) va acc ∧ Ex (hid H1 M1) (hid H2 M2) ∧ R = lcL g tt te vs (ds.drop i) acc Γ2, ?_, ?_⟩
    · have S2 := S1.hide (p := Dd) (o := .lst []) hD (Evl.Ex.new hD) upd_same (fun _ z => by cases z)
      refine ⟨ds.length, by omega, by omega, Dd :: M1, Γ1, [], [], S2, List.mem_cons_self .., fun j hj z => ?_, upd_same, .nil, new_hid hD, hR⟩
      obtain ⟨p, d, f1, f2, _⟩ := held_at S1 hj
      rw [z] at f1
      cases f1
      exact S1.not_in (.of hD) f2
    · rintro i m H2 ⟨hm, hi, M2, Γ2, acc, va, S2, dM, dn, dH, rs, e2, he⟩
      obtain ⟨y1, y2, y3⟩ := yl H2 M2 e2 S2.dm i
      have h0 : Fre B.H0 Dd := S1.fresh (.of hD)
      by_cases hil : i < ds.length
      · refine .inr ⟨y1 hil, fun H3 => ∃ M2 Γ2 acc va, SR K B M2 Γ2 σ H3 ∧ Dd ∈ M2 ∧ (∀ j, held Γ2 j → σ[j]? ≠ some (some (.ref Dd))) ∧ H3 Dd = some (.lst va) ∧ Reps K (hid H3 M2) va acc ∧ Ex (hid H1 M1) (hid H3 M2) ∧ R = lcL g tt te vs (ds.drop (i + 1)) acc Γ2, fun H3 hN => ⟨ds.length - (i + 1), by omega, rfl, by omega, hN⟩, fun x H3 hy => ?_⟩
        have hd : ds[i]? = some ds[i] := List.getElem?_eq_getElem hil
        obtain ⟨x1, x2⟩ := y3 x H3 ds[i] hd hy
        have dr : ds.drop i = ds[i] :: ds.drop (i + 1) := List.drop_eq_getElem_cons hil
        rw [dr] at he
        have S3 : SR K B M2 Γ2 σ H3 := S2.ext x1
        have S3w : SR K B M2 (wipeG Γ2 vs) (L2.wipe σ vs) H3 := S3.wipe
        have S4 := S3w.into
        have dH3 : H3 Dd = some (.lst va) := x1 _ _ dH
        have dnw : ∀ j, paH (wipeG Γ2 vs) (L2.wipe σ vs) j ≠ some Dd := fun j z => by
          obtain ⟨a1, a2⟩ := paH_some z
          have hh : held Γ2 j := by
            rcases a1 with ⟨d, w⟩ | ⟨d, w⟩
            · exact .inl ⟨d, (wipeG_some w).1⟩
            · exact .inr ⟨d, (wipeG_some w).1⟩
          exact dn j hh (wipe_some a2).1
        refine ⟨inB M2 (wipeG Γ2 vs) (L2.wipe σ vs) H3, M2, toPar (wipeG Γ2 vs), ds[i], S4, x2, ?_⟩
        unfold lcL at he
        -- behind a turn
        have endT : ∀ {σ4 : L2.St} {H5 : Hp} {M5 : List Addr} {Γ5 : Gm}, L2.wipe σ4 vs = L2.wipe σ vs → SR K (inB M2 (wipeG Γ2 vs) (L2.wipe σ vs) H3) M5 Γ5 σ4 H5 → Ex (hid H3 M2) (hid H5 M5) → Γ5.length = Γ2.length →
            SR K B M5 (wipeG (fromPar (wipeG Γ2 vs) Γ5) vs) σ H5 ∧ Dd ∈ M5 ∧ (∀ j, held (wipeG (fromPar (wipeG Γ2 vs) Γ5) vs) j → σ[j]? ≠ some (some (.ref Dd))) ∧ H5 Dd = some (.lst va) ∧ Reps K (hid H5 M5) va acc ∧ Ex (hid H1 M1) (hid H5 M5) := fun {σ4 H5 M5 Γ5} ew S5 x5 hl => by
          have Sb := (S3w.back S5 (by rw [wipeG_length]; exact hl)).unwipe (σ := σ) ew
          refine ⟨Sb, S5.sub Dd dM, fun j hj z => ?_, S5.frm Dd _ dH3 (fun _ t => by cases t) dnw, (rs.mono (hid_mono x1)).mono x5, (e2.trans (hid_mono x1)).trans x5⟩
          have hb : held (fromPar (wipeG Γ2 vs) Γ5) j := by
            rcases hj with ⟨d, w⟩ | ⟨d, w⟩
            · exact .inl ⟨d, (wipeG_some w).1⟩
            · exact .inr ⟨d, (wipeG_some w).1⟩
          rcases held_back hb with hb | ⟨d, hb⟩
          · have hh : held Γ2 j := by
              rcases hb with ⟨d, w⟩ | ⟨d, w⟩
              · exact .inl ⟨d, (wipeG_some w).1⟩
              · exact .inr ⟨d, (wipeG_some w).1⟩
            exact dn j hh z
          · obtain ⟨p, f1, f2, _⟩ := S5.par j d hb
            obtain ⟨a1, a2⟩ := paH_some f2
            have hh : held Γ2 j := by
              rcases a1 with ⟨d, w⟩ | ⟨d, w⟩
              · exact .inl ⟨d, (wipeG_some w).1⟩
              · exact .inr ⟨d, (wipeG_some w).1⟩
            exact dn j hh z
        cases eg : g ds[i] (toPar (wipeG Γ2 vs)) with
        | none =>
          rw [eg] at he
          rw [he] at h
          exact h
        | some Γ3 =>
          rw [eg] at he
          dsimp only at he
          intro σ4 T4 S5
          have ew : L2.wipe σ4 vs = L2.wipe σ vs := wipe_eq hv T4
          refine ⟨ew, inB M2 (wipeG Γ2 vs) (L2.wipe σ vs) H3, M2, Γ3, S5, ?_⟩
          cases et : tt Γ3 with
          | no => rw [et] at he; rw [he] at h; exact h
          | exc c fs g => rw [et] at he; rw [he] at h; exact h.elim
          | ok b Γ4 =>
            rw [et] at he
            intro H6 M6 S6 x6
            cases b with
            | false =>
              dsimp only at he
              by_cases hl : Γ4.length = Γ2.length
              · rw [if_pos hl] at he
                obtain ⟨q1, q2, q3, q4, q5, q6⟩ := endT ew S6 x6 hl
                exact ⟨M6, _, acc, va, q1, q2, q3, q4, q5, q6, he⟩
              · rw [if_neg hl] at he
                rw [he] at h
                exact h.elim
            | true =>
              dsimp only at he
              refine tD_use S6 ?_
              cases ee : te Γ4 with
              | no => rw [ee] at he; rw [he] at h; exact h
              | exc c fs g => rw [ee] at he; rw [he] at h; exact h.elim
              | ok y Γ5 =>
                rw [ee] at he
                dsimp only at he
                intro v H7 M7 S7 x7 r7
                by_cases hl : acc.length < sizeLine ∧ Γ5.length = Γ2.length
                · rw [if_pos hl] at he
                  obtain ⟨q1, q2, q3, q4, q5, q6⟩ := endT ew S7 (x6.trans x7) hl.2
                  refine ⟨va, q4, by rw [q5.length]; exact hl.1, ?_⟩
                  obtain ⟨s8, x8⟩ := q1.hidden (o := .lst (va ++ [v])) q4 (fun _ z => by cases z) q2 h0 q3
                  exact ⟨M7, _, acc ++ [y.d], va ++ [v], s8, q2, q3, upd_same, (q5.append (.cons r7 .nil)).mono x8, q6.trans x8, he⟩
                · rw [if_neg hl] at he
                  rw [he] at h
                  exact h.elim
      · have hie : i = ds.length := by omega
        refine .inl ⟨y2 (by omega), ?_⟩
        rw [hie, List.drop_length] at he
        unfold lcL at he
        rw [he] at h
        dsimp only at h
        obtain ⟨a1, a2, a3, a4⟩ := S2.show dM h0 dn
        refine h _ H2 (M2.filter (· ≠ Dd)) ⟨Dd, rfl, a3, h0, a1, a2, ?_, va, dH, ?_⟩
        · rw [a4]; exact e1.trans e2
        · rw [a4]; exact rs
theorem takes_bot {X : Cx} : Takes X wBot := fun u s' ⟨a, B, sI, pins, σ, H, cls, d, e, I, nb, up, sky, na, os, ag, w⟩ => w.elim
section
variable {X : Cx} {W : WX} {elt tg iter : Expr} {ifs : List Expr} {scope : Scope} {own : List (Str × Nat)} {pos : Pos} {f : EM (List D)} {g : D → Gm → Option Gm} {tt : EM Bool} {te : EM Sl} {l : List Nat}
theorem dt_yes : PTs X [] (tDT X.K W (EM.ret true)) := ⟨fun pins s σ H Q I ⟨B, M, Γ, S, h⟩ => pts_nil.run pins s σ H Q I (h H M S (Evl.Ex.refl _))⟩
theorem de_lc (hc : X.calm = true) (hN : X.N.Nodup) (hi : PI X tg iter (tDI X.K W f)) (ok : BlkOk X.N X.env.scope scope own) (hv : ∀ j ∈ l, j ∈ own.map (·.2))
    (hg : ∀ (s : Shared) (H : Hp) (C : Addr) (cl : List (Str × Addr)) (fp : List Addr), PG (X.blk s H scope (compEnvC scope cl C X.env) fp) tg (tDG X.K l g)) (ht : ∀ (s : Shared) (H : Hp) (C : Addr) (cl : List (Str × Addr)) (fp : List Addr), PTs (X.blk s H scope (compEnvC scope cl C X.env) fp) ifs (tDT X.K wBot tt))
    (he : ∀ (s : Shared) (H : Hp) (C : Addr) (cl : List (Str × Addr)) (fp : List Addr), PE (X.blk s H scope (compEnvC scope cl C X.env) fp) elt (tD X.K wBot te)) (hs : ∀ x, foldedSetIterable iter X.env x = pure x := by intro _; rfl) :
    PE X (.ListComp elt [⟨tg, iter, ifs, 0⟩] scope pos) (tD X.K W (dLc f g tt te (own.map (·.2)))) := PE.imp (pe_lc hc hN hi ok hg ht he hs) fun _ _ _ h => q_lc hv h
theorem ds_setLc {i : Nat} {y : Str} {py spos : Pos} (hc : X.calm = true) (hN : X.N.Nodup) (hy : X.N[i]? = some y) (hyl : X.env.scope.names.lookup y = some .local)
    (hsw : swapsWith (.ListComp elt [⟨tg, iter, ifs, 0⟩] scope pos) (some (.Name y py)) spos.line X.env = pure true) (hi : PI X tg iter (tDI X.K W f)) (ok : BlkOk X.N X.env.scope scope own) (hv : ∀ j ∈ l, j ∈ own.map (·.2))
    (hg : ∀ (s : Shared) (H : Hp) (C : Addr) (cl : List (Str × Addr)) (fp : List Addr), PG (X.blk s H scope (compEnvC scope cl C X.env) fp) tg (tDG X.K l g)) (ht : ∀ (s : Shared) (H : Hp) (C : Addr) (cl : List (Str × Addr)) (fp : List Addr), PTs (X.blk s H scope (compEnvC scope cl C X.env) fp) ifs (tDT X.K wBot tt))
    (he : ∀ (s : Shared) (H : Hp) (C : Addr) (cl : List (Str × Addr)) (fp : List Addr), PE (X.blk s H scope (compEnvC scope cl C X.env) fp) elt (tD X.K wBot te)) (hs : ∀ x, foldedSetIterable iter X.env x = pure x := by intro _; rfl) :
    PS X (.Assign [.Name y py] (.ListComp elt [⟨tg, iter, ifs, 0⟩] scope pos) spos) (tS X.K W (dSet i (dLc f g tt te (own.map (·.2))))) := by
  refine PS.imp (ps_setLc hc hN hy hyl hsw hi ok hg ht he hs) fun D σ H ⟨B, M, Γ, S, h⟩ => ?_
  refine q_lc hv (W := W) (fin_then S h (fun _ _ _ _ _ z => z σ) fun r Γ1 v H1 M1 _ q z => ?_)
  obtain ⟨M2, s2, e2⟩ := q.set i
  exact z _ H1 M2 s2 e2
end
end Dl
end
section
set_option maxHeartbeats 4000000
/-! Operations on data. -/
namespace Dl
variable [Tabl]
open PySem PySem.Spec PyProof.Rows L2 Tx He
open Evl (Ex)
/-! ### plain data as the library knows it -/
mutual
def pyE : D → Option PyData
  | .non => some .none
  | .bl b => some (.bool b)
  | .int i => some (.int i)
  | .str z => some (.str z)
  | .tup xs => (pyEs xs).map PyData.tuple
  | .lst xs => (pyEs xs).map PyData.list
  | _ => none
def pyEs : List D → Option (List PyData)
  | [] => some []
  | d :: ds => match pyE d, pyEs ds with
    | some a, some b => some (a :: b)
    | _, _ => none
end
mutual
def pyR : D → Option PyData
  | .non => some .none
  | .bl b => some (.bool b)
  | .int i => some (.int i)
  | .str z => some (.str z)
  | .tup xs => (pyRs xs).map PyData.tuple
  | .lst xs => (pyRs xs).map PyData.list
  | .dct xs => (pyRk xs).map PyData.dict
  | _ => none
def pyRs : List D → Option (List PyData)
  | [] => some []
  | d :: ds => match pyR d, pyRs ds with
    | some a, some b => some (a :: b)
    | _, _ => none
def pyRk : List (L2.Key × D) → Option (List (PyData × PyData))
  | [] => some []
  | (k, d) :: ds => match pyR d, pyRk ds with
    | some a, some b => some ((keyD k, a) :: b)
    | _, _ => none
end
section
variable {K : PySem.W.Frag} {H : Hp}
mutual
theorem dp_of : ∀ {v : V} {d : D} {e : PyData}, Rep K H v d → pyE d = some e → Dp K H v e
  | _, _, _, .non, h => by cases h; exact .non
  | _, _, _, .bl b, h => by cases h; exact .bl b
  | _, _, _, .int i, h => by cases h; exact .int i
  | _, _, _, .str z, h => by cases h; exact .str z
  | _, _, _, .tup (ds := ds) s r, h => by
    unfold pyE at h
    cases q : pyEs ds with
    | none => rw [q] at h; cases h
    | some l => rw [q] at h; cases h; exact .tup (Evl.st_of s) (dps_of r q)
  | _, _, _, .lst (ds := ds) s r, h => by
    unfold pyE at h
    cases q : pyEs ds with
    | none => rw [q] at h; cases h
    | some l => rw [q] at h; cases h; exact .lst (Evl.sq_of s) (dps_of r q)
  | _, _, _, .dct _ _, h => by cases h
  | _, _, _, .ins _ _, h => by cases h
  | _, _, _, .err _ _, h => by cases h
  | _, _, _, .cls _, h => by cases h
  | _, _, _, .ty _, h => by cases h
  | _, _, _, .scr _ _, h => by cases h
theorem dps_of : ∀ {v : List V} {d : List D} {e : List PyData}, Reps K H v d → pyEs d = some e → DpAll K H v e
  | _, _, _, .nil, h => by cases h; exact .nil
  | _, _, _, .cons (d := d) (ds := ds) r t, h => by
    unfold pyEs at h
    cases q1 : pyE d with
    | none => rw [q1] at h; cases h
    | some a => cases q2 : pyEs ds with
      | none => rw [q1, q2] at h; cases h
      | some b => rw [q1, q2] at h; cases h; exact .cons (dp_of r q1) (dps_of t q2)
end
mutual
theorem dr_of : ∀ {v : V} {d : D} {e : PyData}, Rep K H v d → pyR d = some e → Dr K H v e
  | _, _, _, .non, h => by cases h; exact .non
  | _, _, _, .bl b, h => by cases h; exact .bl b
  | _, _, _, .int i, h => by cases h; exact .int i
  | _, _, _, .str z, h => by cases h; exact .str z
  | _, _, _, .tup (ds := ds) s r, h => by
    unfold pyR at h
    cases q : pyRs ds with
    | none => rw [q] at h; cases h
    | some l => rw [q] at h; cases h; exact .tup (Evl.st_of s) (drs_of r q)
  | _, _, _, .lst (ds := ds) s r, h => by
    unfold pyR at h
    cases q : pyRs ds with
    | none => rw [q] at h; cases h
    | some l => rw [q] at h; cases h; exact .lst (Evl.sq_of s) (drs_of r q)
  | _, _, _, .dct (ds := ds) s r, h => by
    unfold pyR at h
    cases q : pyRk ds with
    | none => rw [q] at h; cases h
    | some l => rw [q] at h; cases h; exact .dic s (drk_of r q)
  | _, _, _, .ins _ _, h => by cases h
  | _, _, _, .err _ _, h => by cases h
  | _, _, _, .cls _, h => by cases h
  | _, _, _, .ty _, h => by cases h
  | _, _, _, .scr _ _, h => by cases h
theorem drs_of : ∀ {v : List V} {d : List D} {e : List PyData}, Reps K H v d → pyRs d = some e → DrAll K H v e
  | _, _, _, .nil, h => by cases h; exact .nil
  | _, _, _, .cons (d := d) (ds := ds) r t, h => by
    unfold pyRs at h
    cases q1 : pyR d with
    | none => rw [q1] at h; cases h
    | some a => cases q2 : pyRs ds with
      | none => rw [q1, q2] at h; cases h
      | some b => rw [q1, q2] at h; cases h; exact .cons (dr_of r q1) (drs_of t q2)
theorem drk_of : ∀ {v : List (L2.Key × V)} {d : List (L2.Key × D)} {e : List (PyData × PyData)}, RepK K H v d → pyRk d = some e → DrKv K H v e
  | _, _, _, .nil, h => by cases h; exact .nil
  | _, _, _, .cons (k := k) (d := d) (ds := ds) r t, h => by
    unfold pyRk at h
    cases q1 : pyR d with
    | none => rw [q1] at h; cases h
    | some a => cases q2 : pyRk ds with
      | none => rw [q1, q2] at h; cases h
      | some b => rw [q1, q2] at h; cases h; exact .cons (dr_of r q1) (drk_of t q2)
end
end
/-! ### arithmetic -/
def opAdd : D → D → Option Sl
  | .int i, .int j => some (.dat (.int (i + j)))
  | .str i, .str j => if i.length + j.length ≤ sizeLine then some (.dat (.str (i ++ j))) else none
  | .tup xs, .tup ys => if xs.length + ys.length ≤ sizeLine then some (.dat (.tup (xs ++ ys))) else none
  | .lst xs, .lst ys => if xs.length + ys.length ≤ sizeLine then some (.own (.lst (xs ++ ys))) else none
  | _, _ => none
def opSub : D → D → Option Sl
  | .int i, .int j => some (.dat (.int (i - j)))
  | _, _ => none
def opMul : D → D → Option Sl
  | .int i, .int j => @ite _ ((-(2 ^ 64) < i ∧ i < 2 ^ 64) ∨ (-(2 ^ 64) < j ∧ j < 2 ^ 64)) (@instDecidableOr _ _ (@instDecidableAnd _ _ (ltD _ _) (ltD _ _)) (@instDecidableAnd _ _ (ltD _ _) (ltD _ _))) (some (.dat (.int (i * j)))) none
  | .lst xs, .int k => @ite _ (-(2 ^ 63) ≤ k ∧ k < 2 ^ 63 ∧ xs.length * k.toNat ≤ sizeLine) (@instDecidableAnd _ _ _ (@instDecidableAnd _ _ (ltD _ _) _)) (some (.own (.lst (List.replicate k.toNat xs).flatten))) none
  | _, _ => none
def opFdiv : D → D → Option Sl
  | .int i, .int j => @ite _ (0 < j ∧ j < 2 ^ 64) (@instDecidableAnd _ _ _ (ltD _ _)) (some (.dat (.int (i / j)))) none
  | _, _ => none
def opMod : D → D → Option Sl
  | .int i, .int j => if 0 < j then some (.dat (.int (i % j))) else none
  | _, _ => none
def opPow : D → D → Option Sl
  | .int i, .int j => if 0 ≤ j ∧ j ≤ 1000000 ∧ i.natAbs < 2 ^ 64 then some (.dat (.int (i ^ j.toNat))) else none
  | _, _ => none
def opNeg : D → Option Sl
  | .int i => some (.dat (.int (-i)))
  | _ => none
def opCmp (f : Int → Int → Bool) : D → D → Option Sl
  | .int i, .int j => some (.dat (.bl (f i j)))
  | _, _ => none
abbrev opLt := opCmp fun i j => decide (i < j)
abbrev opLe := opCmp fun i j => decide (i ≤ j)
abbrev opGt := opCmp fun i j => decide (j < i)
abbrev opGe := opCmp fun i j => decide (j ≤ i)
def opEqP (d e : D) : Option Bool := match pyE d, pyE e with
  | some a, some b => if SeqAt.shaped a = true ∧ SeqAt.shaped b = true then some (PyData.eqv a b) else none
  | _, _ => none
def opIsN : D → D → Option Sl
  | .non, .non => some (.dat (.bl true))
  | .non, _ => none
  | .cls _, _ => none
  | _, .non => some (.dat (.bl false))
  | _, _ => none
def opNotN : D → D → Option Sl
  | .non, .non => some (.dat (.bl false))
  | .non, _ => none
  | .cls _, _ => none
  | _, .non => some (.dat (.bl true))
  | _, _ => none
section
variable {X : Cx}
theorem new_dat {K : PySem.W.Frag} {M : List Addr} {H : Hp} {v : V} {d : D} (r : Rep K (hid H M) v d) : New K M H H v (.dat d) := ⟨ExT.refl _, r⟩
theorem nd_int {K : PySem.W.Frag} {M : List Addr} {H : Hp} {i : Int} : New K M H H (.int i) (.dat (.int i)) := new_dat (.int i)
theorem nd_bl {K : PySem.W.Frag} {M : List Addr} {H : Hp} {i : Bool} : New K M H H (.bl i) (.dat (.bl i)) := new_dat (.bl i)
theorem nd_str {K : PySem.W.Frag} {M : List Addr} {H : Hp} {i : Str} : New K M H H (.str i) (.dat (.str i)) := new_dat (.str i)
theorem isEmp {α : Type} {l : List α} : l = [] ↔ l.length = 0 := List.length_eq_zero_iff.symm
theorem od_add : OpD X (binaryOp .Add) opAdd := by
  intro pins s σ H x y v u Q I rx ry ⟨M, d, e, r, dm, hx, hy, hg, k⟩
  cases hx with
  | int i =>
    cases hy with
    | int j => cases hg; exact op_add pins s σ H _ _ v u Q I rx ry ⟨i, j, rfl, rfl, k _ _ nd_int⟩
    | _ => cases hg
  | str i =>
    cases hy with
    | str j =>
      simp only [opAdd] at hg
      split at hg
      · rename_i hz
        cases hg
        exact op_add_str pins s σ H _ _ v u Q I rx ry ⟨i, j, rfl, rfl, hz, k _ _ nd_str⟩
      · cases hg
    | _ => cases hg
  | tup s1 r1 =>
    cases hy with
    | tup s2 r2 =>
      rename_i a xs ds b ys es
      simp only [opAdd] at hg
      split at hg
      · rename_i hz
        cases hg
        refine op_catA pins s σ H _ _ v u Q I rx ry ⟨a, b, xs, ys, rfl, rfl, Evl.st_of (hid_of s1).2, Evl.st_of (hid_of s2).2, by rw [r1.length, r2.length]; exact hz, fun h0 => ?_, fun _ h0 => ?_, fun _ _ p hp => k _ _ (new_tup dm hp (r1.append r2))⟩
        · subst h0
          cases r1
          exact k _ _ (new_dat (.tup s2 r2))
        · subst h0
          cases r2
          exact k _ _ (new_dat (by rw [List.append_nil]; exact .tup s1 r1))
      · cases hg
    | _ => cases hg
  | lst s1 r1 =>
    cases hy with
    | lst s2 r2 =>
      rename_i a xs ds b ys es
      simp only [opAdd] at hg
      split at hg
      · rename_i hz
        cases hg
        exact op_cat pins s σ H _ _ v u Q I rx ry ⟨a, b, xs, ys, rfl, rfl, (hid_of s1).2, (hid_of s2).2, by rw [r1.length, r2.length]; exact hz, fun p hp => k _ _ (new_lst hp (r1.append r2))⟩
      · cases hg
    | _ => cases hg
  | _ => cases hg
theorem od_sub : OpD X (binaryOp .Sub) opSub := by
  intro pins s σ H x y v u Q I rx ry ⟨M, d, e, r, dm, hx, hy, hg, k⟩
  cases hx with
  | int i =>
    cases hy with
    | int j => cases hg; exact op_sub pins s σ H _ _ v u Q I rx ry ⟨i, j, rfl, rfl, k _ _ nd_int⟩
    | _ => cases hg
  | _ => cases hg
theorem Reps.flat {K : PySem.W.Frag} {H : Hp} {vs : List V} {ds : List D} (r : Reps K H vs ds) : ∀ n : Nat, Reps K H (List.replicate n vs).flatten (List.replicate n ds).flatten
  | 0 => .nil
  | n + 1 => by
    rw [List.replicate_succ, List.replicate_succ, List.flatten_cons, List.flatten_cons]
    exact r.append (Reps.flat r n)
theorem od_mul : OpD X (binaryOp .Mult) opMul := by
  intro pins s σ H x y v u Q I rx ry ⟨M, d, e, r, dm, hx, hy, hg, k⟩
  cases hx with
  | int i =>
    cases hy with
    | int j =>
      simp only [opMul] at hg
      split at hg
      · rename_i hz
        cases hg
        exact op_mul pins s σ H _ _ v u Q I rx ry ⟨i, j, rfl, rfl, hz, k _ _ nd_int⟩
      · cases hg
    | _ => cases hg
  | lst s1 r1 =>
    cases hy with
    | int j =>
      simp only [opMul] at hg
      split at hg
      · rename_i hz
        cases hg
        exact op_rep pins s σ H _ _ v u Q I rx ry ⟨_, j, _, rfl, rfl, (hid_of s1).2, hz.1, hz.2.1, by rw [r1.length]; exact hz.2.2, fun p hp => k _ _ (new_lst hp (r1.flat _))⟩
      · cases hg
    | _ => cases hg
  | _ => cases hg
theorem od_fdiv : OpD X (binaryOp .FloorDiv) opFdiv := by
  intro pins s σ H x y v u Q I rx ry ⟨M, d, e, r, dm, hx, hy, hg, k⟩
  cases hx with
  | int i =>
    cases hy with
    | int j =>
      simp only [opFdiv] at hg
      split at hg
      · rename_i hz
        cases hg
        exact op_fdivW pins s σ H _ _ v u Q I rx ry ⟨i, j, rfl, rfl, wide_div (b := 64) hz.1 (by omega) (by decide) (by decide), k _ _ nd_int⟩
      · cases hg
    | _ => cases hg
  | _ => cases hg
theorem od_mod : OpD X (binaryOp .Mod) opMod := by
  intro pins s σ H x y v u Q I rx ry ⟨M, d, e, r, dm, hx, hy, hg, k⟩
  cases hx with
  | int i =>
    cases hy with
    | int j =>
      simp only [opMod] at hg
      split at hg
      · rename_i hz
        cases hg
        exact op_mod pins s σ H _ _ v u Q I rx ry ⟨i, j, rfl, rfl, hz, k _ _ nd_int⟩
      · cases hg
    | _ => cases hg
  | _ => cases hg
theorem od_pow : OpD X (binaryOp .Pow) opPow := by
  intro pins s σ H x y v u Q I rx ry ⟨M, d, e, r, dm, hx, hy, hg, k⟩
  cases hx with
  | int i =>
    cases hy with
    | int j =>
      simp only [opPow] at hg
      split at hg
      · rename_i hz
        cases hg
        exact op_pow pins s σ H _ _ v u Q I rx ry ⟨i, j, rfl, rfl, hz, k _ _ nd_int⟩
      · cases hg
    | _ => cases hg
  | _ => cases hg
theorem od_neg : UnD X (unaryOp .USub) opNeg := by
  intro pins s σ H x v Q I rx ⟨M, d, r, dm, hx, hg, k⟩
  cases hx with
  | int i => cases hg; exact un_neg pins s σ H _ v Q I rx ⟨i, rfl, k _ _ nd_int⟩
  | _ => cases hg
theorem od_cmp {op : CmpOp} {f : Int → Int → Bool} (ho : OpR X (compareOp op) (rI0 fun i j => .bl (f i j))) : OpD X (compareOp op) (opCmp f) := by
  intro pins s σ H x y v u Q I rx ry ⟨M, d, e, r, dm, hx, hy, hg, k⟩
  cases hx with
  | int i =>
    cases hy with
    | int j => cases hg; exact ho pins s σ H _ _ v u Q I rx ry ⟨i, j, rfl, rfl, k _ _ nd_bl⟩
    | _ => cases hg
  | _ => cases hg
theorem od_lt : OpD X (compareOp .Lt) opLt := od_cmp op_lt
theorem od_le : OpD X (compareOp .LtE) opLe := od_cmp op_le
theorem od_gt : OpD X (compareOp .Gt) opGt := od_cmp op_gt
theorem od_ge : OpD X (compareOp .GtE) opGe := od_cmp op_ge
theorem Dp.up {K : PySem.W.Frag} {H H' : Hp} {v : V} {d : D} {e : PyData} (ex : Ex H H') (r : Rep K H v d) (h : pyE d = some e) : Dp K H' v e := dp_of (r.mono ex) h
def opEqN (neg : Bool) (d e : D) : Option Sl := match d, e with
  | .str y, .str z => some (.dat (.bl (neg ^^ decide (y = z))))
  | d, e => (opEqP d e).map fun b => .dat (.bl (neg ^^ b))
theorem opEqN_cases {neg : Bool} {d e : D} {r : Sl} (h : opEqN neg d e = some r) : (∃ y z, d = .str y ∧ e = .str z ∧ r = .dat (.bl (neg ^^ decide (y = z)))) ∨ (opEqP d e).map (fun b => Sl.dat (.bl (neg ^^ b))) = some r := by
  unfold opEqN at h
  split at h
  · rename_i y z
    cases h
    exact .inl ⟨y, z, rfl, rfl, rfl⟩
  · exact .inr h
theorem od_eqP (hu : X.A.units + 64 < cLine) : OpD X (compareOp .Eq) (opEqN false) := by
  intro pins s σ H x y v u Q I rx ry ⟨M, d, e, r, dm, hx, hy, hg, k⟩
  rcases opEqN_cases hg with ⟨y', z', rfl, rfl, rfl⟩ | hg
  · cases hx
    cases hy
    refine op_eq pins s σ H _ _ v u Q I rx ry ⟨rfl, ?_⟩
    have e : decide (V.str y' = V.str z') = decide (y' = z') := by simp
    rw [e]
    exact k _ _ (by first | (rw [Bool.false_xor]; exact nd_bl) | (rw [Bool.true_xor]; exact nd_bl))
  unfold opEqP at hg
  cases h1 : pyE d with
  | none => rw [h1] at hg; cases hg
  | some a =>
    cases h2 : pyE e with
    | none => rw [h1, h2] at hg; cases hg
    | some b =>
      rw [h1, h2] at hg
      dsimp only at hg
      split at hg
      · rename_i hz
        cases hg
        exact op_eqD hu pins s σ H _ _ v u Q I rx ry ⟨a, b, Dp.up hid_ex hx h1, Dp.up hid_ex hy h2, hz.1, hz.2, k _ _ (by dsimp only; rw [Bool.false_xor]; exact nd_bl)⟩
      · cases hg
theorem od_neP (hu : X.A.units + 64 < cLine) : OpD X (compareOp .NotEq) (opEqN true) := by
  intro pins s σ H x y v u Q I rx ry ⟨M, d, e, r, dm, hx, hy, hg, k⟩
  rcases opEqN_cases hg with ⟨y', z', rfl, rfl, rfl⟩ | hg
  · cases hx
    cases hy
    refine op_ne pins s σ H _ _ v u Q I rx ry ⟨rfl, ?_⟩
    have e : decide (V.str y' = V.str z') = decide (y' = z') := by simp
    rw [e]
    exact k _ _ (by first | (rw [Bool.false_xor]; exact nd_bl) | (rw [Bool.true_xor]; exact nd_bl))
  unfold opEqP at hg
  cases h1 : pyE d with
  | none => rw [h1] at hg; cases hg
  | some a =>
    cases h2 : pyE e with
    | none => rw [h1, h2] at hg; cases hg
    | some b =>
      rw [h1, h2] at hg
      dsimp only at hg
      split at hg
      · rename_i hz
        cases hg
        exact op_neD hu pins s σ H _ _ v u Q I rx ry ⟨a, b, Dp.up hid_ex hx h1, Dp.up hid_ex hy h2, hz.1, hz.2, k _ _ (by dsimp only; rw [Bool.true_xor]; exact nd_bl)⟩
      · cases hg
end
end Dl
end
section
set_option maxHeartbeats 4000000
/-! Built-in functions and own operators over data. -/
namespace Dl
variable [Tabl]
open PySem PySem.Spec PyProof.Rows L2 Tx He
open Evl (Ex)
/-! ### types -/
/-- a class: a built-in one, one of the program -/
inductive Ck where
  | b (n : String) | o (c : Str)
  deriving DecidableEq
def ckV (K : PySem.W.Frag) : Ck → Value
  | .b n => .type n
  | .o c => .ref (ga K c)
def tyK : D → Option Ck
  | .non => some (.b "NoneType")
  | .bl _ => some (.b "bool")
  | .int _ => some (.b "int")
  | .str _ => some (.b "str")
  | .tup _ => some (.b "tuple")
  | .lst _ => some (.b "list")
  | .dct _ => some (.b "dict")
  | .ins c _ => some (.o c)
  | _ => none
def clK : D → Option Ck
  | .ty n => some (.b n)
  | .cls c => some (.o c)
  | _ => none
/-- the classes whose instances are known -/
def InsOk (K : PySem.W.Frag) (cs : List Str) : Prop := ∀ c ∈ cs, Hx.InsK K (ga K c)
def tyIn (cs : List Str) (d : D) : Option Ck := match d with
  | .ins c _ => if cs.contains c = true then some (.o c) else none
  | d => tyK d
theorem tyX_of {K : PySem.W.Frag} {H H' : Hp} {cs : List Str} {v : V} {d : D} {t : Ck} (hc : InsOk K cs) (ex : Ex H H') (r : Rep K H v d) (h : tyIn cs d = some t) : TyX K H' v (ckV K t) := by
  cases r with
  | non => cases h; exact .base .non
  | bl b => cases h; exact .base (.bl b)
  | int i => cases h; exact .base (.int i)
  | str z => cases h; exact .base (.str z)
  | tup s r => cases h; exact .base (.tup (ex _ _ s))
  | lst s r => cases h; exact .base (.lst (ex _ _ s))
  | dct s r => cases h; exact .base (.dK (ex _ _ s))
  | ins s r =>
    unfold tyIn at h
    split at h
    · rename_i c fs heq
      cases heq
      split at h
      · rename_i hcs
        cases h
        exact (hc _ (List.contains_iff_mem.mp hcs)).ty (ex _ _ s)
      · cases h
    · rename_i hno
      exact absurd rfl (hno _ _)
  | _ => cases h
/-- isinstance: what the classes say of one another -/
abbrev IsT := List ((Ck × Ck) × Bool)
def IsTOk (K : PySem.W.Frag) (T : IsT) : Prop := ∀ e ∈ T, PySem.W.kitOne K (ckV K e.1.1) (ckV K e.1.2) = some e.2
def anyT (T : IsT) (t : Ck) : List Ck → Option Bool
  | [] => some false
  | k :: ks => match T.lookup (t, k) with
    | some true => some true
    | some false => anyT T t ks
    | none => none
def clKs : List D → Option (List Ck)
  | [] => some []
  | c :: cs => match clK c, clKs cs with
    | some k, some ks => some (k :: ks)
    | _, _ => none
def isiD (cs : List Str) (T : IsT) : List D → Option Sl
  | [x, .tup ks] => match tyIn cs x, clKs ks with
    | some t, some cks => (anyT T t cks).map fun b => .dat (.bl b)
    | _, _ => none
  | [x, c] => match tyIn cs x, clK c with
    | some t, some k => (T.lookup (t, k)).map fun b => .dat (.bl b)
    | _, _ => none
  | _ => none
theorem isT_get {K : PySem.W.Frag} {T : IsT} (h : IsTOk K T) {t k : Ck} {b : Bool} (e : T.lookup (t, k) = some b) : PySem.W.kitOne K (ckV K t) (ckV K k) = some b := by
  have : ((t, k), b) ∈ T := by
    clear h
    induction T with
    | nil => cases e
    | cons q T ih =>
      obtain ⟨p, b'⟩ := q
      rw [List.lookup_cons] at e
      cases hk : (t, k) == p with
      | true =>
        simp only [hk] at e
        cases e
        rw [beq_iff_eq.mp hk]
        exact List.mem_cons_self ..
      | false =>
        simp only [hk] at e
        exact List.mem_cons_of_mem _ (ih e)
  exact h _ this
theorem clK_at {K : PySem.W.Frag} {H : Hp} {v : V} {c : D} {k : Ck} (r : Rep K H v c) (h : clK c = some k) : ClsV v (ckV K k) := by
  cases r with
  | ty n => cases h; exact .ty n
  | cls c => cases h; exact .own _
  | _ => cases h
theorem anyT_ok {K : PySem.W.Frag} {T : IsT} (hT : IsTOk K T) {t : Ck} : ∀ {ks : List Ck} {b : Bool}, anyT T t ks = some b → PySem.W.kitAny K (ckV K t) (ks.map (ckV K)) = some b
  | [], b, h => by cases h; rfl
  | k :: ks, b, h => by
    unfold anyT at h
    show (match PySem.W.kitOne K (ckV K t) (ckV K k) with
      | some true => some true
      | some false => PySem.W.kitAny K (ckV K t) (ks.map (ckV K))
      | none => none) = some b
    cases hl : T.lookup (t, k) with
    | none => rw [hl] at h; cases h
    | some b1 =>
      rw [hl] at h
      rw [isT_get hT hl]
      cases b1 with
      | true => exact h
      | false => exact anyT_ok hT h
theorem clKs_at {K : PySem.W.Frag} {H : Hp} : ∀ {cs : List D} {vs : List V} {ks : List Ck}, Reps K H vs cs → clKs cs = some ks → Paired ClsV vs (ks.map (ckV K))
  | _, _, _, .nil, h => by cases h; exact .nil
  | c :: cs, _ :: _, _, .cons r rs, h => by
    unfold clKs at h
    cases hk : clK c with
    | none => rw [hk] at h; cases h
    | some k => cases hs : clKs cs with
      | none => rw [hk, hs] at h; cases h
      | some ks =>
        rw [hk, hs] at h
        cases h
        exact .cons (clK_at r hk) (clKs_at rs hs)
section
variable {X : Cx}
theorem cd_isi {cs : List Str} {T : IsT} (hc : InsOk X.K cs) (hT : IsTOk X.K T) : ClD X (.builtin "isinstance") (isiD cs T) := by
  intro pins s σ H xs us Q I r ⟨M, ds, rr, dm, rs, hg, k⟩
  unfold isiD at hg
  split at hg
  · rename_i x ks
    cases rs with
    | cons r1 rs =>
      cases rs with
      | cons r2 rs =>
        cases rs
        cases r2 with
        | tup hs rks =>
          cases h1 : tyIn cs x with
          | none => rw [h1] at hg; cases hg
          | some t => cases h2 : clKs ks with
            | none => rw [h1, h2] at hg; cases hg
            | some cks =>
              rw [h1, h2] at hg
              dsimp only at hg
              cases h3 : anyT T t cks with
              | none => rw [h3] at hg; cases hg
              | some b =>
                rw [h3] at hg
                cases hg
                exact call_isiT pins s σ H _ us Q I r ⟨_, _, _, _, _, b, rfl, (hid_of hs).2, clKs_at rks h2, tyX_of hc hid_ex r1 h1, anyT_ok hT h3, k _ _ nd_bl⟩
  · rename_i x c hno
    cases rs with
    | cons r1 rs =>
      cases rs with
      | cons r2 rs =>
        cases rs
        cases h1 : tyIn cs x with
        | none => rw [h1] at hg; cases hg
        | some t => cases h2 : clK c with
          | none => rw [h1, h2] at hg; cases hg
          | some ck =>
            rw [h1, h2] at hg
            dsimp only at hg
            cases h3 : T.lookup (t, ck) with
            | none => rw [h3] at hg; cases hg
            | some b =>
              rw [h3] at hg
              cases hg
              exact call_isi pins s σ H _ us Q I r ⟨_, _, _, _, b, rfl, clK_at r2 h2, tyX_of hc hid_ex r1 h1, isT_get hT h3, k _ _ nd_bl⟩
  · cases hg
/-! ### len, int, abs, list, tuple -/
def lenD : List D → Option Sl
  | [.str z] => if z.length ≤ sizeLine then some (.dat (.int z.length)) else none
  | [.tup xs] => some (.dat (.int xs.length))
  | [.lst xs] => some (.dat (.int xs.length))
  | _ => none
theorem cd_len : ClD X (.builtin "len") lenD := by
  intro pins s σ H xs us Q I r ⟨M, ds, rr, dm, rs, hg, k⟩
  unfold lenD at hg
  split at hg
  · rename_i z
    split at hg
    · rename_i hz
      cases hg
      cases rs with
      | cons r1 rs =>
        cases r1
        cases rs
        exact call_len pins s σ H _ us Q I r ⟨_, z.length, rfl, ⟨hz, rfl⟩, k _ _ nd_int⟩
    · cases hg
  · cases hg
    cases rs with
    | cons r1 rs =>
      cases r1 with
      | tup hs rt =>
        cases rs
        exact call_len pins s σ H _ us Q I r ⟨_, _, rfl, .inr ⟨_, Evl.st_of (hid_of hs).2, rfl⟩, by rw [rt.length]; exact k _ _ nd_int⟩
  · cases hg
    cases rs with
    | cons r1 rs =>
      cases r1 with
      | lst hs rt =>
        cases rs
        exact call_len pins s σ H _ us Q I r ⟨_, _, rfl, .inl ⟨_, Evl.sq_of (hid_of hs).2, rfl⟩, by rw [rt.length]; exact k _ _ nd_int⟩
  · cases hg
def intD : List D → Option Sl
  | [.int i] => some (.dat (.int i))
  | [.bl b] => some (.dat (.int (if b then 1 else 0)))
  | _ => none
theorem cd_int : ClD X (.type "int") intD := by
  intro pins s σ H xs us Q I r ⟨M, ds, rr, dm, rs, hg, k⟩
  unfold intD at hg
  split at hg
  · rename_i i
    cases hg
    cases rs with
    | cons r1 rs =>
      cases r1
      cases rs
      exact call_int1 pins s σ H _ us Q I r (.inl ⟨i, rfl, k _ _ nd_int⟩)
  · rename_i b
    cases hg
    cases rs with
    | cons r1 rs =>
      cases r1
      cases rs
      exact call_int1 pins s σ H _ us Q I r (.inr ⟨b, rfl, k _ _ nd_int⟩)
  · cases hg
def absD : List D → Option Sl
  | [.int i] => some (.dat (.int (if i < 0 then -i else i)))
  | _ => none
theorem cd_abs : ClD X (.builtin "abs") absD := by
  intro pins s σ H xs us Q I r ⟨M, ds, rr, dm, rs, hg, k⟩
  unfold absD at hg
  split at hg
  · rename_i i
    cases hg
    cases rs with
    | cons r1 rs =>
      cases r1
      cases rs
      exact call_abs pins s σ H _ us Q I r ⟨i, rfl, k _ _ nd_int⟩
  · cases hg
def listD : List D → Option Sl
  | [.tup xs] => some (.own (.lst xs))
  | [.lst xs] => some (.own (.lst xs))
  | [.scr xs] => some (.own (.lst xs))
  | _ => none
theorem cd_list : ClD X (.type "list") listD := by
  intro pins s σ H xs us Q I r ⟨M, ds, rr, dm, rs, hg, k⟩
  unfold listD at hg
  split at hg
  · cases hg
    cases rs with
    | cons r1 rs =>
      cases r1 with
      | tup hs rt =>
        cases rs
        exact call_list_of pins s σ H _ us Q I r ⟨_, _, rfl, .inr (Evl.st_of (hid_of hs).2), fun l hl => k _ _ (new_lst hl rt)⟩
  · cases hg
    cases rs with
    | cons r1 rs =>
      cases r1 with
      | lst hs rt =>
        cases rs
        exact call_list_of pins s σ H _ us Q I r ⟨_, _, rfl, .inl (Evl.sq_of (hid_of hs).2), fun l hl => k _ _ (new_lst hl rt)⟩
  · cases hg
    cases rs with
    | cons r1 rs =>
      cases r1 with
      | scr hs rt =>
        cases rs
        exact call_list_of pins s σ H _ us Q I r ⟨_, _, rfl, .inl (Evl.ex_l hid_ex hs), fun l hl => k _ _ (new_lst hl rt)⟩
  · cases hg
def tupleD : List D → Option Sl
  | [.tup xs] => some (.dat (.tup xs))
  | [.lst xs] => some (.dat (.tup xs))
  | _ => none
theorem cd_tuple : ClD X (.type "tuple") tupleD := by
  intro pins s σ H xs us Q I r ⟨M, ds, rr, dm, rs, hg, k⟩
  unfold tupleD at hg
  split at hg
  · cases hg
    cases rs with
    | cons r1 rs =>
      cases r1 with
      | tup hs rt =>
        cases rs
        exact call_tuple_of pins s σ H _ us Q I r ⟨_, _, rfl, .inr ⟨Evl.st_of (hid_of hs).2, k _ _ (new_dat (.tup hs rt))⟩⟩
  · cases hg
    cases rs with
    | cons r1 rs =>
      cases r1 with
      | lst hs rt =>
        cases rs
        exact call_tuple_of pins s σ H _ us Q I r ⟨_, _, rfl, .inl ⟨Evl.sq_of (hid_of hs).2, fun l hl => k _ _ (new_tup dm hl rt)⟩⟩
  · cases hg
/-! ### repr -/
def reprD : List D → Option Sl
  | [d] => match pyR d with
    | some e => if e.showable = true ∧ e.depth ≤ 60 ∧ e.shown.length ≤ sizeLine then some (.dat (.str e.shown)) else none
    | none => none
  | _ => none
theorem cd_repr (gd : X.A.guards = some []) (hu : X.A.units + 64 < cLine) (hS : SysIn X.K) : ClD X (.builtin "repr") reprD := by
  intro pins s σ H xs us Q I r ⟨M, ds, rr, dm, rs, hg, k⟩
  unfold reprD at hg
  split at hg
  · rename_i d
    cases rs with
    | cons r1 rs =>
      cases rs
      cases h1 : pyR d with
      | none => rw [h1] at hg; cases hg
      | some e =>
        rw [h1] at hg
        dsimp only at hg
        split at hg
        · rename_i hz
          cases hg
          exact call_reprD gd hu hS pins s σ H _ us Q I r ⟨_, e, rfl, dr_of (r1.mono hid_ex) h1, hz.1, hz.2.1, hz.2.2, k _ _ nd_str⟩
        · cases hg
  · cases hg
/-! ### in, is -/
def flatD : D → Bool
  | .non => true
  | .bl _ => true
  | .int _ => true
  | .str _ => true
  | _ => false
def eqF : D → D → Bool
  | .non, .non => true
  | .bl a, .bl b => a == b
  | .bl a, .int b => (if a then 1 else 0) == b
  | .int a, .bl b => a == (if b then 1 else 0)
  | .int a, .int b => a == b
  | .str a, .str b => a == b
  | _, _ => false
def oneC (z : Str) : Option Nat := match z.cps.toList with
  | [c] => some c
  | _ => none
theorem oneC_some {z : Str} {c : Nat} (h : oneC z = some c) : z = ⟨#[c]⟩ := by
  unfold oneC at h
  split at h
  · rename_i c' e
    cases h
    obtain ⟨⟨l⟩⟩ := z
    simp only at e
    rw [e]
  · cases h
def inD (neg : Bool) : D → D → Option Sl
  | x, .tup xs => if flatD x = true ∧ xs.all flatD = true then some (.dat (.bl (neg ^^ xs.any fun y => eqF y x))) else none
  | x, .lst xs => if flatD x = true ∧ xs.all flatD = true then some (.dat (.bl (neg ^^ xs.any fun y => eqF y x))) else none
  | .str w, .str z => (oneC w).map fun c => .dat (.bl (neg ^^ decide (c ∈ z.cps.toList)))
  | _, _ => none
theorem flat_of {K : PySem.W.Frag} {H : Hp} {v : V} {d : D} (r : Rep K H v d) : flatV v = flatD d := by cases r <;> rfl
theorem eqF_of {K : PySem.W.Frag} {H : Hp} {v u : V} {d e : D} (r : Rep K H v d) (r' : Rep K H u e) (h : flatD d = true) (h' : flatD e = true) : eqV v u = eqF d e := by
  cases r <;> cases h <;> cases r' <;> cases h' <;> rfl
theorem flats_of {K : PySem.W.Frag} {H : Hp} : ∀ {vs : List V} {ds : List D}, Reps K H vs ds → vs.all flatV = ds.all flatD
  | _, _, .nil => rfl
  | _, _, .cons r t => by rw [List.all_cons, List.all_cons, flat_of r, flats_of t]
theorem any_of {K : PySem.W.Frag} {H : Hp} {x : V} {d : D} (r : Rep K H x d) (h : flatD d = true) : ∀ {vs : List V} {ds : List D}, Reps K H vs ds → ds.all flatD = true → (vs.any fun y => eqV y x) = ds.any fun y => eqF y d
  | _, _, .nil, _ => rfl
  | _, _, .cons r1 t, ha => by
    rw [List.all_cons, Bool.and_eq_true] at ha
    rw [List.any_cons, List.any_cons, eqF_of r1 r ha.1 h, any_of r h t ha.2]
theorem od_inG {neg : Bool} {op : CmpOp} (h1 : OpR X (compareOp op) (rIn X.K neg)) (h2 : OpR X (compareOp op) (fun x y H Q => ∃ (c : Nat) (z : Str), x = .str ⟨#[c]⟩ ∧ y = .str z ∧ Q (.bl (neg ^^ decide (c ∈ z.cps.toList))) H)) : OpD X (compareOp op) (inD neg) := by
  intro pins s σ H x y v u Q I rx ry ⟨M, d, e, r, dm, hx, hy, hg, k⟩
  have xr : ∀ b : Bool, (if neg then !b else b) = (neg ^^ b) := fun b => by cases neg <;> cases b <;> rfl
  unfold inD at hg
  split at hg
  · split at hg
    · rename_i hz
      cases hg
      cases hy with
      | tup hs rs =>
        refine h1 pins s σ H _ _ v u Q I rx ry ⟨_, _, rfl, .inr (Evl.st_of (hid_of hs).2), by rw [flat_of hx]; exact hz.1, by rw [flats_of rs]; exact hz.2, ?_⟩
        have := any_of hx hz.1 rs hz.2
        refine k _ _ ?_
        rw [xr, ← this]
        exact nd_bl
    · cases hg
  · split at hg
    · rename_i hz
      cases hg
      cases hy with
      | lst hs rs =>
        refine h1 pins s σ H _ _ v u Q I rx ry ⟨_, _, rfl, .inl (Evl.sq_of (hid_of hs).2), by rw [flat_of hx]; exact hz.1, by rw [flats_of rs]; exact hz.2, ?_⟩
        have := any_of hx hz.1 rs hz.2
        refine k _ _ ?_
        rw [xr, ← this]
        exact nd_bl
    · cases hg
  · rename_i w z
    cases hc : oneC w with
    | none => rw [hc] at hg; cases hg
    | some c =>
      rw [hc] at hg
      cases hg
      cases oneC_some hc
      cases hx
      cases hy
      exact h2 pins s σ H _ _ v u Q I rx ry ⟨c, z, rfl, rfl, k _ _ nd_bl⟩
  · cases hg
theorem od_in : OpD X (compareOp .In) (inD false) := od_inG op_in_seq fun pins s σ H x y v u Q I rx ry ⟨c, z, h1, h2, q⟩ => op_in_sign pins s σ H x y v u Q I rx ry ⟨c, z, h1, h2, by rw [Bool.false_xor] at q; exact q⟩
theorem od_notIn : OpD X (compareOp .NotIn) (inD true) := od_inG op_notIn_seq fun pins s σ H x y v u Q I rx ry ⟨c, z, h1, h2, q⟩ => op_notIn_sign pins s σ H x y v u Q I rx ry ⟨c, z, h1, h2, by rw [Bool.true_xor] at q; exact q⟩
def isNone : D → Option Bool
  | .non => some true
  | .bl _ => some false
  | .int _ => some false
  | .str _ => some false
  | .tup _ => some false
  | .lst _ => some false
  | .dct _ => some false
  | .ins _ _ => some false
  | .err _ _ => some false
  | _ => none
def isND (neg : Bool) : D → D → Option Sl
  | x, .non => (isNone x).map fun b => .dat (.bl (neg ^^ b))
  | _, _ => none
theorem isNone_ok {K : PySem.W.Frag} {H : Hp} {v : V} {d : D} {b : Bool} (r : Rep K H v d) (h : isNone d = some b) : decide (v = .non) = b := by
  cases r <;> cases h <;> rfl
theorem od_is : OpD X (compareOp .Is) (isND false) := by
  intro pins s σ H x y v u Q I rx ry ⟨M, d, e, r, dm, hx, hy, hg, k⟩
  unfold isND at hg
  split at hg
  · cases hy
    cases hb : isNone d with
    | none => rw [hb] at hg; cases hg
    | some b =>
      rw [hb] at hg
      cases hg
      exact op_isN pins s σ H _ _ v u Q I rx ry ⟨rfl, k _ _ (by dsimp only; rw [Bool.false_xor, isNone_ok hx hb]; exact nd_bl)⟩
  · cases hg
theorem od_isNot : OpD X (compareOp .IsNot) (isND true) := by
  intro pins s σ H x y v u Q I rx ry ⟨M, d, e, r, dm, hx, hy, hg, k⟩
  unfold isND at hg
  split at hg
  · cases hy
    cases hb : isNone d with
    | none => rw [hb] at hg; cases hg
    | some b =>
      rw [hb] at hg
      cases hg
      exact op_notN pins s σ H _ _ v u Q I rx ry ⟨rfl, k _ _ (by dsimp only; rw [Bool.true_xor, isNone_ok hx hb]; exact nd_bl)⟩
  · cases hg
end
end Dl
end
section
set_option maxHeartbeats 4000000
/-! Own operators, texts, subscripts, slices, keyword calls over data. -/
namespace Dl
variable [Tabl]
open PySem PySem.Spec PyProof.Rows L2 Tx He
open Evl (Ex)
/-! ### a call by data alone -/
theorem spE_pure {K : PySem.W.Frag} {F : Fn} {M : List Addr} {H : Hp} {vs : List V} {ds : List D} {Q : VK} {E : XK} (dm : Dm M H) (r : Reps K (hid H M) vs ds) (h : match F (ds.map Sl.dat) with
    | .ok r [] => ∀ v H', New K M H H' v r → Q v H'
    | _ => False) : spE K F vs H Q E := by
  have rl := r.length
  have bok : (⟨M, fun _ => none, H⟩ : Bs).Ok := ⟨fun i j p z => (nomatch z), fun i p z => (nomatch z), dm.dom⟩
  refine ⟨⟨M, fun _ => none, H⟩, ds.map Sl.dat, rfl, ?_, ?_, ?_⟩
  · have at1 : ∀ (j : Nat) (s : Sl), ((ds.map Sl.dat).map some)[j]? = some (some s) → ∃ d v, s = .dat d ∧ vs[j]? = some v ∧ Rep K (hid H M) v d := fun j s z => by
      have z' := map_some_at z
      rw [List.getElem?_map] at z'
      cases e : ds[j]? with
      | none => rw [e] at z'; cases z'
      | some d =>
        rw [e] at z'
        cases z'
        obtain ⟨v, e1, e2⟩ := r.at e
        exact ⟨d, v, rfl, e1, e2⟩
    exact {
      dat := fun j d z => by
        obtain ⟨d', v, e, e1, e2⟩ := at1 j _ z
        cases e
        exact ⟨v, at_map_some e1, e2⟩
      own := fun j d z => by
        obtain ⟨d', v, e, _⟩ := at1 j _ z
        cases e
      par := fun j d z => by
        obtain ⟨d', v, e, _⟩ := at1 j _ z
        cases e
      sub := fun a z => z
      dom := dm.dom
      frm := fun a o z _ _ => z
      len := by simp [rl]
      bok := bok
      tab := dm.tab }
  · intro i d z
    rw [List.getElem?_map] at z
    cases e : ds[i]? <;> rw [e] at z <;> cases z
  · split
    · rename_i rr ps e
      rw [e] at h
      cases ps with
      | cons _ _ => exact h.elim
      | nil =>
        intro v H' fr po
        have ex : ExT H H' := ⟨fun a o z t => fr.1 a o z t fun i q => (by cases q), fun _ => fr.2⟩
        cases rr with
        | dat d => exact h v H' ⟨ex, po.2⟩
        | par d => exact po.elim
        | own d =>
          obtain ⟨p, ev, h0, _, ow⟩ := po
          exact h v H' ⟨p, ev, h0, ex, ow⟩
    · rename_i c fs ps e
      rw [e] at h
      exact h.elim
    · rename_i e
      rw [e] at h
      exact h
/-! ### own ==, != -/
/-- the classes with an own == (and what it computes) -/
abbrev EqT := List (Str × Fn)
structure EqOk (P : Program) (w : World) (K : PySem.W.Frag) (mg : Str → Option Value) (base : Heap) (k : Nat) (cs : List Str) (ts : List Ck) (c : Str) (F : Fn) : Prop where
  eqc : ∃ f fd ps, EqC K (ga K c) f ∧ ps.length = 2 ∧ FnOk P w K mg base (L2.CX P w) k f fd ps (spD K 2 F) ∧ Binds K fd ps []
  nf : ∀ t ∈ ts, PySem.W.notFirst K (ga K c) (ckV K t) = true
def eqO (cs : List Str) (ts : List Ck) (T : EqT) (neg : Bool) (d e : D) : Option Sl := match d with
  | .ins c fs => match T.lookup c, tyIn cs e with
    | some F, some t => if ts.contains t = true then (match F [.dat (.ins c fs), .dat e] with
      | .ok (.dat (.bl b)) [] => some (.dat (.bl (neg ^^ b)))
      | _ => none) else none
    | _, _ => none
  | d => opEqN neg d e
theorem lookupT {β : Type} {T : List (Str × β)} {c : Str} {F : β} (e : T.lookup c = some F) : (c, F) ∈ T := by
  induction T with
  | nil => cases e
  | cons q T ih =>
    obtain ⟨p, b'⟩ := q
    rw [List.lookup_cons] at e
    cases hk : c == p with
    | true =>
      simp only [hk] at e
      cases e
      rw [beq_iff_eq.mp hk]
      exact List.mem_cons_self ..
    | false =>
      simp only [hk] at e
      exact List.mem_cons_of_mem _ (ih e)
section
variable {X : Cx} {k : Nat} {cs : List Str} {ts : List Ck} {T : EqT}
theorem pass_bot : Passes (L2.CX X.prog X.w) X (fun _ _ _ => False) := fun pins σ H s e s' I h => by
  obtain ⟨a, B, H', cls, d, _, _, _, _, _, _, _, z⟩ := h
  exact z.elim
theorem od_eqO (hu : X.A.units + 64 < cLine) (hr : Room k X.A) (hc : InsOk X.K cs) (hT : ∀ e ∈ T, EqOk X.prog X.w X.K X.mg X.base k cs ts e.1 e.2) : OpD X (compareOp .Eq) (eqO cs ts T false) := by
  intro pins s σ H x y v u Q I rx ry ⟨M, d, e, r, dm, hx, hy, hg, kk⟩
  unfold eqO at hg
  split at hg
  · rename_i c fs
    cases hl : T.lookup c with
    | none => rw [hl] at hg; cases hg
    | some F => cases ht : tyIn cs e with
      | none => rw [hl, ht] at hg; cases hg
      | some t =>
        rw [hl, ht] at hg
        dsimp only at hg
        split at hg
        · rename_i hin
          obtain ⟨⟨f, fd, ps, q1, q2, q3, q4⟩, nf⟩ := hT _ (lookupT hl)
          cases hF : F [.dat (.ins c fs), .dat e] with
          | no => rw [hF] at hg; cases hg
          | exc _ _ _ => rw [hF] at hg; cases hg
          | ok rr qs =>
            rw [hF] at hg
            have hx0 := hx
            cases hx with
            | ins ha rf =>
              refine op_eqO q1 q3 hr q4 pass_bot pins s σ H _ _ v u Q I rx ry ⟨_, _, _, _, rfl, (hid_of ha).2, tyX_of hc hid_ex hy ht, nf t (List.contains_iff_mem.mp hin), rfl, spE_pure dm (.cons hx0 (.cons hy .nil)) ?_⟩
              show match F [.dat (.ins c fs), .dat e] with | .ok r [] => _ | _ => _
              rw [hF]
              cases rr with
              | own _ => cases hg
              | par _ => cases hg
              | dat d0 => cases d0 with
                | bl b => cases qs with
                  | nil =>
                    cases hg
                    intro v' H' n
                    obtain ⟨n1, n2⟩ := n
                    cases n2
                    exact ⟨b, rfl, kk _ _ ⟨n1, by rw [Bool.false_xor]; exact .bl b⟩⟩
                  | cons _ _ => cases hg
                | _ => cases hg
        · cases hg
  · exact od_eqP hu pins s σ H x y v u Q I rx ry ⟨M, d, e, r, dm, hx, hy, hg, kk⟩
theorem od_neO (hu : X.A.units + 64 < cLine) (hr : Room (k + 1) X.A) (hc : InsOk X.K cs) (hT : ∀ e ∈ T, EqOk X.prog X.w X.K X.mg X.base k cs ts e.1 e.2) : OpD X (compareOp .NotEq) (eqO cs ts T true) := by
  intro pins s σ H x y v u Q I rx ry ⟨M, d, e, r, dm, hx, hy, hg, kk⟩
  unfold eqO at hg
  split at hg
  · rename_i c fs
    cases hl : T.lookup c with
    | none => rw [hl] at hg; cases hg
    | some F => cases ht : tyIn cs e with
      | none => rw [hl, ht] at hg; cases hg
      | some t =>
        rw [hl, ht] at hg
        dsimp only at hg
        split at hg
        · rename_i hin
          obtain ⟨⟨f, fd, ps, q1, q2, q3, q4⟩, nf⟩ := hT _ (lookupT hl)
          cases hF : F [.dat (.ins c fs), .dat e] with
          | no => rw [hF] at hg; cases hg
          | exc _ _ _ => rw [hF] at hg; cases hg
          | ok rr qs =>
            rw [hF] at hg
            have hx0 := hx
            cases hx with
            | ins ha rf =>
              refine op_neO q1 q3 hr q4 pass_bot pins s σ H _ _ v u Q I rx ry ⟨_, _, _, _, rfl, (hid_of ha).2, tyX_of hc hid_ex hy ht, nf t (List.contains_iff_mem.mp hin), rfl, spE_pure dm (.cons hx0 (.cons hy .nil)) ?_⟩
              show match F [.dat (.ins c fs), .dat e] with | .ok r [] => _ | _ => _
              rw [hF]
              cases rr with
              | own _ => cases hg
              | par _ => cases hg
              | dat d0 => cases d0 with
                | bl b => cases qs with
                  | nil =>
                    cases hg
                    intro v' H' n
                    obtain ⟨n1, n2⟩ := n
                    cases n2
                    exact ⟨b, rfl, kk _ _ ⟨n1, by rw [Bool.true_xor]; exact .bl (!b)⟩⟩
                  | cons _ _ => cases hg
                | _ => cases hg
        · cases hg
  · exact od_neP hu pins s σ H x y v u Q I rx ry ⟨M, d, e, r, dm, hx, hy, hg, kk⟩
/-! ### str -/
structure StrOk (P : Program) (w : World) (K : PySem.W.Frag) (mg : Str → Option Value) (base : Heap) (k : Nat) (c : Str) (F : Fn) : Prop where
  strc : ∃ f, StrC K (ga K c) f ∧ FnE P w K mg base k f F
def strO (T : EqT) : List D → Option Sl
  | [.int i] => if i.natAbs.log2 < 1920 then some (.dat (.str (toString i))) else none
  | [.str z] => some (.dat (.str z))
  | [.ins c fs] => match T.lookup c with
    | some F => (match F [.dat (.ins c fs)] with | .ok (.dat (.str z)) [] => some (.dat (.str z)) | _ => none)
    | none => none
  | _ => none
theorem cd_str (hr : Room (k + 2) X.A) (hT : ∀ e ∈ T, StrOk X.prog X.w X.K X.mg X.base k e.1 e.2) : ClD X (.type "str") (strO T) := by
  intro pins s σ H xs us Q I r ⟨M, ds, rr, dm, rs, hg, kk⟩
  unfold strO at hg
  split at hg
  · rename_i i
    split at hg
    · rename_i hz
      cases hg
      cases rs with
      | cons r1 rs =>
        cases r1
        cases rs
        exact call_str_int pins s σ H _ us Q I r ⟨i, rfl, hz, kk _ _ nd_str⟩
    · cases hg
  · rename_i z
    cases hg
    cases rs with
    | cons r1 rs =>
      cases r1
      cases rs
      exact SkE.call_str_str pins s σ H _ us Q I r ⟨z, rfl, kk _ _ nd_str⟩
  · rename_i c fs
    cases hl : T.lookup c with
    | none => rw [hl] at hg; cases hg
    | some F =>
      rw [hl] at hg
      dsimp only at hg
      obtain ⟨f, q1, q2⟩ := (hT _ (lookupT hl)).strc
      cases hF : F [.dat (.ins c fs)] with
      | no => rw [hF] at hg; cases hg
      | exc _ _ _ => rw [hF] at hg; cases hg
      | ok r0 qs =>
        rw [hF] at hg
        cases rs with
        | cons r1 rs =>
          have r10 := r1
          cases r1 with
          | ins ha rf =>
            cases rs
            refine call_strO q1 q2 hr pass_bot pins s σ H _ us Q I r ⟨_, _, _, rfl, (hid_of ha).2, spE_pure dm (.cons r10 .nil) ?_⟩
            show match F [.dat (.ins c fs)] with | .ok r [] => _ | _ => _
            rw [hF]
            cases r0 with
            | own _ => cases hg
            | par _ => cases hg
            | dat d0 => cases d0 with
              | str z => cases qs with
                | nil =>
                  cases hg
                  intro v' H' n
                  obtain ⟨n1, n2⟩ := n
                  cases n2
                  exact ⟨z, rfl, kk _ _ ⟨n1, .str z⟩⟩
                | cons _ _ => cases hg
              | _ => cases hg
  · cases hg
end
/-! ### subscripts, slices -/
def ixD : D → D → Option Sl
  | .lst xs, .int k => (atI xs k).map Sl.dat
  | .tup xs, .int k => (atI xs k).map Sl.dat
  | .str z, .int k => if z.length ≤ sizeLine then (atI z.cps.toList k).map fun c => .dat (.str ⟨#[c]⟩) else none
  | _, _ => none
section
variable {X : Cx} {W : WX} {a b e : Expr} {fa fb : EM Sl} {pos : Pos}
theorem ixr_D : IxR X (rOp X.K ixD) := by
  intro value slice pins s σ H x y v u Q I rx ry h hs
  refine ix_seq value slice pins s σ H x y v u Q I rx ry ?_ hs
  obtain ⟨M, d, e, r, dm, hx, hy, hg, k⟩ := h
  unfold ixD at hg
  split at hg
  · rename_i xs i
    cases hx with
    | lst hs rs =>
      cases hy
      cases ha : atI xs i with
      | none => rw [ha] at hg; cases hg
      | some d0 =>
        rw [ha] at hg
        cases hg
        obtain ⟨w, g1, g2⟩ := rs.atI ha
        exact .inl ⟨_, _, i, w, rfl, rfl, Evl.sq_of (hid_of hs).2, g1, k _ _ (new_dat g2)⟩
  · rename_i xs i
    cases hx with
    | tup hs rs =>
      cases hy
      cases ha : atI xs i with
      | none => rw [ha] at hg; cases hg
      | some d0 =>
        rw [ha] at hg
        cases hg
        obtain ⟨w, g1, g2⟩ := rs.atI ha
        exact .inr (.inl ⟨_, _, i, w, rfl, rfl, Evl.st_of (hid_of hs).2, g1, k _ _ (new_dat g2)⟩)
  · rename_i z i
    cases hx
    cases hy
    split at hg
    · rename_i hz
      cases ha : atI z.cps.toList i with
      | none => rw [ha] at hg; cases hg
      | some c =>
        rw [ha] at hg
        cases hg
        exact .inr (.inr ⟨z, i, c, rfl, rfl, hz, ha, k _ _ nd_str⟩)
    · cases hg
  · cases hg
theorem de_ix (ha : PE X a (tD X.K W fa)) (hb : PE X b (tD X.K W fb)) (hs : PlainIx b) : PE X (.Subscript a b pos) (tD X.K W (dOp ixD fa fb)) := PE.imp (pe_ix ixr_D ha hb hs) fun _ _ _ h => q_bin h
/-- a part of a slice -/
def tDO (K : PySem.W.Frag) (W : WX) (f : EM (Option Int)) : TO := fun σ H Q => ∃ B M Γ, SR K B M Γ σ H ∧ match f Γ with
  | .ok o Γ' => ∀ H' M', SR K B M' Γ' σ H' → Ex (hid H M) (hid H' M') → Q o H'
  | .exc c fs Γ' => Fail K W B σ c fs Γ'
  | .no => False
def intOf : D → Option (Option Int)
  | .int i => some (some i)
  | _ => none
def dONone : EM (Option Int) := EM.ret none
def dOSome (f : EM Sl) : EM (Option Int) := f.bind fun x => EM.opt (intOf x.d)
theorem PO.imp {o : Option Expr} {t t' : TO} (h : PO X o t) (k : ∀ σ H Q, t' σ H Q → t σ H Q) : PO X o t' := ⟨fun pins s σ H Q I q => h.run pins s σ H Q I (k σ H Q q)⟩
theorem do_none : PO X none (tDO X.K W dONone) := PO.imp po_none fun σ H Q ⟨B, M, Γ, S, h⟩ => h H M S (Evl.Ex.refl _)
theorem do_some (ha : PE X a (tD X.K W fa)) : PO X (some a) (tDO X.K W (dOSome fa)) := PO.imp (po_some ha) fun σ H Q ⟨B, M, Γ, S, h⟩ => tD_use S (by
  unfold dOSome EM.bind at h
  cases e : fa Γ with
  | no => rw [e] at h; exact h
  | exc c fs g => rw [e] at h; exact h
  | ok x Γ1 =>
    rw [e] at h
    intro v H1 M1 S1 e1 r1
    dsimp only [EM.opt] at h
    cases hx : x.d with
    | int i =>
      rw [hx] at h r1
      cases r1
      exact ⟨i, rfl, h H1 M1 S1 e1⟩
    | _ => rw [hx] at h; exact h.elim)
def cutD (xs : List D) (lo hi : Option Int) : List D := (xs.drop (HT.sIx xs.length 0 lo)).take (HT.sIx xs.length xs.length hi - HT.sIx xs.length 0 lo)
def slD : D → Option Int → Option Int → Option Sl
  | .lst xs, lo, hi => some (.own (.lst (cutD xs lo hi)))
  | .scr xs, lo, hi => some (.own (.lst (cutD xs lo hi)))
  | .tup xs, lo, hi => some (.dat (.tup (cutD xs lo hi)))
  | .str z, lo, hi => if z.length ≤ sizeLine then some (.dat (.str (Txt.slice z lo hi))) else none
  | _, _, _ => none
def dSl (fa : EM Sl) (fl fh : EM (Option Int)) : EM Sl := fa.bind fun x => fl.bind fun l => fh.bind fun h => EM.opt (slD x.d l h)
theorem Reps.cut {K : PySem.W.Frag} {H : Hp} {vs : List V} {ds : List D} (r : Reps K H vs ds) (lo hi : Option Int) : Reps K H (cutV vs lo hi) (cutD ds lo hi) := by
  unfold cutV cutD
  rw [r.length]
  exact (r.drop _).take _
theorem de_sl {lo hi : Option Expr} {fl fh : EM (Option Int)} {p2 : Pos} (ha : PE X a (tD X.K W fa)) (hl : PO X lo (tDO X.K W fl)) (hh : PO X hi (tDO X.K W fh)) : PE X (.Subscript a (.Slice lo hi none p2) pos) (tD X.K W (dSl fa fl fh)) := by
  refine PE.imp (pe_slice ((sl_list (X := X)).or ((L2.sl_tupA (X := X)).or (C8.sl_txt (X := X)))) ha hl hh) fun σ H Q ⟨B, M, Γ, S, h⟩ => tD_use S ?_
  unfold dSl EM.bind at h
  cases e : fa Γ with
  | no => rw [e] at h; exact h
  | exc c fs g => rw [e] at h; exact h
  | ok x Γ1 =>
    rw [e] at h
    intro v H1 M1 S1 e1 r1
    dsimp only at h
    refine ⟨B, M1, Γ1, S1, ?_⟩
    cases e2 : fl Γ1 with
    | no => rw [e2] at h; exact h
    | exc c fs g => rw [e2] at h; exact h
    | ok l Γ2 =>
      rw [e2] at h
      intro H2 M2 S2 ex2
      dsimp only at h
      refine ⟨B, M2, Γ2, S2, ?_⟩
      cases e3 : fh Γ2 with
      | no => rw [e3] at h; exact h
      | exc c fs g => rw [e3] at h; exact h
      | ok hh Γ3 =>
        rw [e3] at h
        intro H3 M3 S3 ex3
        dsimp only [EM.opt] at h
        have r3 := (r1.mono ex2).mono ex3
        have exA := (e1.trans ex2).trans ex3
        cases hs : slD x.d l hh with
        | none => rw [hs] at h; exact h.elim
        | some rr =>
          rw [hs] at h
          have kk : ∀ v H', New X.K M3 H3 H' v rr → Q v H' := fun v H' n => h v H' M3 (n.val S3 exA)
          cases hx : x.d with
          | lst xs =>
            rw [hx] at hs r3
            cases hs
            cases r3 with
            | lst q rs => exact .inl ⟨_, _, rfl, Evl.sq_of (hid_of q).2, fun p hp => kk _ _ (new_lst hp (rs.cut l hh))⟩
          | scr xs =>
            rw [hx] at hs r3
            cases hs
            cases r3 with
            | scr q rs => exact .inl ⟨_, _, rfl, Evl.ex_l hid_ex q, fun p hp => kk _ _ (new_lst hp (rs.cut l hh))⟩
          | tup xs =>
            rw [hx] at hs r3
            cases hs
            cases r3 with
            | tup q rs =>
              refine .inr (.inl ⟨_, _, rfl, Evl.st_of (hid_of q).2, fun hz => kk _ _ ⟨ExT.refl _, ?_⟩, fun hz p hp => kk _ _ (new_tup S3.dm hp (rs.cut l hh))⟩)
              rw [rs.length] at hz
              have e : cutD xs l hh = xs := by
                unfold cutD
                rw [hz.1, hz.2]
                simp
              rw [e]
              exact .tup q rs
          | str z =>
            rw [hx] at hs r3
            unfold slD at hs
            dsimp only at hs
            split at hs
            · rename_i hz
              cases hs
              cases r3
              exact .inr (.inr ⟨z, rfl, hz, kk _ _ nd_str⟩)
            · cases hs
          | _ => rw [hx] at hs; cases hs
end
end Dl
end
section
set_option maxHeartbeats 4000000
/-! super(), texts, ranges, dicts, keyword calls over data. -/
namespace Dl
variable [Tabl]
open PySem PySem.Spec PyProof.Rows L2 Tx He
open Evl (Ex)
theorem ArgV.length {K : PySem.W.Frag} {M : List Addr} {σ : L2.St} {H : Hp} : ∀ {vs : List V} {as : List Ar}, ArgV K M σ H vs as → vs.length = as.length
  | [], [], _ => rfl
  | _ :: _, .dat _ :: _, ⟨_, b⟩ => congrArg Nat.succ b.length
  | _ :: _, .slot _ :: _, ⟨_, b⟩ => congrArg Nat.succ b.length
/-! ### super().m(e, ..) -/
theorem fn_cx0 {P : Program} {w : World} {K : PySem.W.Frag} {mg : Str → Option Value} {base : Heap} {k : Nat} {f : Addr} {fd : FuncData} {ps : List Str} {sp : Sp} (F : FnOk P w K mg base (L2.CX P w) k f fd ps sp) : FnOk P w K mg base CX0 k f fd ps (fun vs H Q _ => sp vs H Q fun _ _ _ => False) :=
  ⟨fun vs H Q E h => F.len vs H Q _ h, fun A outer s H args us vs Q E hr e0 hb r h => codeAny_mono (F.run A outer s H args us vs Q _ hr e0 hb r h) fun res s' got => by
    cases res with
    | ok fl => cases fl <;> exact got
    | error e =>
      obtain ⟨a, B, H', cls, d, _, _, _, _, _, _, _, z⟩ := got
      exact z.elim⟩
def dSup (c : Str) (n : Nat) (F : Fn) (ga : EM (List Ar)) : SM := fun Γ => match heldD Γ 0 with
  | some (.ins c' _) => if c' = c then dThen ga (fun as Γ1 => if as.length + 1 = n then (match callD F (.slot 0 :: as) Γ1 with
      | .ok _ Γ2 => .nx Γ2
      | _ => .no) else .no) Γ else .no
  | _ => .no
theorem q_sup {K : PySem.W.Frag} {W : WX} {c : Str} {n : Nat} {F : Fn} {gx : EM (List Ar)} {D : Ends} {σ : L2.St} {H : Hp} (h : tS K W (dSup c n F gx) D σ H) : tSup (ga K c) (fun vs H Q _ => spD K n F vs H Q fun _ _ _ => False) (tDA K W gx) D σ H := by
  obtain ⟨B, M, Γ, S, h⟩ := h
  unfold dSup at h
  split at h
  · rename_i c' fs hh
    by_cases hc : c' = c
    · rw [if_pos hc] at h
      subst hc
      obtain ⟨hd, x, e1, e2, dx, vs, e3, e4⟩ := heldD_at S hh
      refine ⟨x, dx, vs, e1, e3, B, M, Γ, S, ?_⟩
      unfold dThen at h
      cases eg : gx Γ with
      | no => rw [eg] at h; exact h
      | exc c fs g => rw [eg] at h; exact h σ
      | ok as Γ1 =>
        rw [eg] at h
        intro ws H1 M1 S1 ex1 av
        dsimp only at h
        by_cases hn : as.length + 1 = n
        · rw [if_pos hn] at h
          refine ⟨by rw [List.length_cons, av.length]; exact hn, spE_use (as := .slot 0 :: as) S1 ⟨e1, av⟩ ?_⟩
          cases hcd : callD F (.slot 0 :: as) Γ1 with
          | no => rw [hcd] at h; exact h
          | exc c fs g => rw [hcd] at h; exact h.elim
          | ok r Γ2 =>
            rw [hcd] at h
            exact fun v H' M' q => h σ H' M' q.dat.1 (ex1.trans q.dat.2.1)
        · rw [if_neg hn] at h
          exact h.elim
    · rw [if_neg hc] at h
      exact h.elim
  · exact h.elim
theorem cds_cons {X : Cx} {W : WX} {body rest : List Stmt} {st : Stmt} {g1 g2 : SM} (h1 : PS X st (tS X.K W g1)) (h2 : CSs X body rest (tS X.K W g2)) : CSs X body (st :: rest) (tS X.K W (dSeq g1 g2)) := by
  have q := css_cons h1 h2
  refine ⟨fun pins s σ H D I h => q.run pins s σ H D I ?_⟩
  obtain ⟨B, M, Γ, S, h⟩ := h
  refine ⟨B, M, Γ, S, ?_⟩
  unfold dSeq at h
  cases e : g1 Γ with
  | nx Γ1 => rw [e] at h; exact fun σ' H' M' s x => ⟨B, M', Γ1, s, h.mono x⟩
  | rt r Γ1 => rw [e] at h; exact h
  | bk Γ1 => rw [e] at h; exact h
  | ct Γ1 => rw [e] at h; exact h
  | exc c fs g => rw [e] at h; exact h
  | no => rw [e] at h; exact h
section
variable {X : Cx} {W : WX} {qual : Str} {scope : Scope} {L f cda cc D g : Addr} {c self name : Str} {body : List Stmt} {p0 p1 apos pos epos : Pos} {e : Expr} {es : List Expr} {k : Nat} {fd : FuncData} {ps : List Str} {F : Fn} {gx : EM (List Ar)} {pl : Sem Bool}
theorem cds_sup (TS : SupF X.prog X.K f cda cc D (ga X.K c) g self name) (henv : X.env = PySem.W.ksEnv qual scope L f (.ref cda) cc) (hks : scope.names.lookup ("super" : Str) = some .globalImplicit) (hkc : scope.names.lookup ("__class__" : Str) = some .free)
    (hka : scope.names.lookup self = some .local) (hm : X.mg "super" = none) (hat : (name == ("__class__" : Str)) = false) (hN : X.N[0]? = some self) (args : PA X (e :: es) (tDA X.K W gx)) (Fp : FnOk X.prog X.w X.K X.mg X.base (L2.CX X.prog X.w) k g fd ps (spD X.K ps.length F)) (room : Room k X.A) (bnd : Binds X.K fd ps [])
    (se : starEach (e :: es) X.env = (false, eval e X.env) :: starEach es X.env := by rfl) (sn : (backTo pos (starEach es X.env)).any (·.1) = false := by rfl)
    (he : eval (.Call (.Attribute (.Call (.Name "super" p0) [] [] p1) name apos) (e :: es) [] pos) X.env = (do
      let ov ← attributeBase (.Call (.Name "super" p0) [] [] p1) name X.env (eval (.Call (.Name "super" p0) [] [] p1) X.env)
      standAt apos.atName
      let (f, first) ← holding [ov] (getMethod ov name pl)
      callWith pos f first (backTo pos (starEach (e :: es) X.env)) []) := by rfl) :
    CSs X body [.Expr (.Call (.Attribute (.Call (.Name "super" p0) [] [] p1) name apos) (e :: es) [] pos) epos] (tS X.K W (dSup c ps.length F gx)) := by
  have q := css_sup (body := body) (epos := epos) TS henv hks hkc hka hm hat hN args (fn_cx0 Fp) room bnd se sn he
  exact ⟨fun pins s σ H D I h => q.run pins s σ H D I (q_sup h)⟩
end
/-- THE RULE for a method with super() -/
theorem ok_DC {P : Program} {w : World} {K : PySem.W.Frag} {mg : Str → Option Value} {base : Heap} {x qual : Str} {params : Arguments} {body : List Stmt} {scope : Scope} {dvs : List V} {f cda cc : Addr} {fd : FuncData} {N ps : List Str} {k : Nat} {g : SM}
    (F : FunC K x qual params body scope dvs f cda cc fd) (S : SupScope N ps scope)
    (hbody : ∀ (A : Around) (outer : List Env) (s : Shared) (H : Hp) (E : XK), Room k (A.deeper (PySem.W.ksEnv qual scope s.heap.objs.size f (.ref cda) cc)) → Takes (supX (CX P w) P w K mg base N qual scope f (.ref cda) cc A outer s H E) (wx E) →
      CSs (supX (CX P w) P w K mg base N qual scope f (.ref cda) cc A outer s H E) body body (tS K (wx E) g)) : FnOk P w K mg base (CX P w) (k + 1) f fd ps (spD K ps.length (bodyF N.length g)) :=
  F.ok S (fun _ _ _ _ h => h.1) fun A outer s H vs Q E hr hsp => ⟨_, hbody A outer s H E hr (takes_of rfl rfl rfl rfl), body_spD hsp.2⟩
/-! ### methods of built-in types -/
def dBm (ty : D → Bool) (g : D → List D → Option Sl) (fo : EM Sl) (ga : EM (List Ar)) : EM Sl := fo.bind fun o => if ty o.d = true then ga.bind fun as => EM.opt ((dats as).bind (g o.d)) else fun _ => .no
def isStr : D → Bool
  | .str _ => true
  | _ => false
def isLst : D → Bool
  | .lst _ => true
  | _ => false
theorem ty_str {K : PySem.W.Frag} {H : Hp} {v : V} {d : D} (r : Rep K H v d) (h : isStr d = true) : tyV K "str" v H := by
  cases r with
  | str z => rfl
  | _ => cases h
theorem ty_lst {K : PySem.W.Frag} {H : Hp} {v : V} {d : D} (r : Rep K H v d) (h : isLst d = true) : tyV K "list" v H := by
  cases r with
  | lst hs rs => exact .inl ⟨rfl, _, Evl.sq_of hs⟩
  | _ => cases h
section
variable {X : Cx} {W : WX} {o e : Expr} {es : List Expr} {fo : EM Sl} {gx : EM (List Ar)} {name : Str} {apos cpos : Pos} {T id : String} {ty : D → Bool} {g : D → List D → Option Sl}
theorem de_bm {r : V → List V → Hp → VK → Prop} (pa : PlainAttrs T) (slot : Slot T name id) (hty : typeOf (.builtin id) = pure (.type "method_descriptor")) (hm : MtR X id r) (hr : ∀ x xs H Q, rMt X.K g x xs H Q → r x xs H Q) (ht : ∀ {H : Hp} {v : V} {d : D}, Rep X.K H v d → ty d = true → tyV X.K T v H)
    (ho : PE X o (tD X.K W fo)) (ha : PA X (e :: es) (tDA X.K W gx)) (hbase : attributeBase o name X.env (eval o X.env) = eval o X.env := by rfl)
    (hfew : ((backTo cpos (starEach (e :: es) X.env)).all (fun x => !x.1) && (backToKw cpos (keywordEach [] X.env)).all (fun x => x.1.isSome)
      && decide ((e :: es).length + ([] : List Keyword).length + (if ([] : List Keyword).isEmpty then 0 else 1) < 30)) = true := by rfl)
    (hline : (apos.endLine == cpos.line) = true := by rfl) (hs : starEach (e :: es) X.env = (false, eval e X.env) :: starEach es X.env := by rfl) (hplain : (backTo cpos (starEach es X.env)).any (·.1) = false := by rfl) :
    PE X (.Call (.Attribute o name apos) (e :: es) [] cpos) (tD X.K W (dBm ty g fo gx)) := by
  refine PE.imp (pe_bm pa slot hty hm ho ha hbase hfew hline hs hplain) fun σ H Q ⟨B, M, Γ, S, h⟩ => tD_use S ?_
  unfold dBm EM.bind at h
  cases eo : fo Γ with
  | no => rw [eo] at h; exact h
  | exc c fs g => rw [eo] at h; exact h
  | ok x Γ1 =>
    rw [eo] at h
    intro v H1 M1 S1 e1 r1
    dsimp only at h
    by_cases hx : ty x.d = true
    · rw [if_pos hx] at h
      refine ⟨ht (r1.mono hid_ex) hx, B, M1, Γ1, S1, ?_⟩
      cases eg : gx Γ1 with
      | no => rw [eg] at h; exact h
      | exc c fs g => rw [eg] at h; exact h
      | ok as Γ2 =>
        rw [eg] at h
        intro vs H2 M2 S2 e2 av
        dsimp only [EM.opt] at h
        cases hd : dats as with
        | none => rw [hd] at h; exact h.elim
        | some ds =>
          rw [hd] at h
          simp only [Option.bind_some] at h
          cases hg : g x.d ds with
          | none => rw [hg] at h; exact h.elim
          | some rr =>
            rw [hg] at h
            exact hr _ _ _ _ ⟨M2, x.d, ds, rr, S2.dm, r1.mono e2, av.dats hd, hg, fun v H' n => h v H' M2 (n.val S2 (e1.trans e2))⟩
    · rw [if_neg hx] at h
      exact h.elim
/-! texts -/
def strL : List D → Option (List Str)
  | [] => some []
  | .str z :: ds => (strL ds).map (z :: ·)
  | _ :: _ => none
theorem strL_ok {K : PySem.W.Frag} {H : Hp} : ∀ {vs : List V} {ds : List D} {zs : List Str}, Reps K H vs ds → strL ds = some zs → vs = zs.map V.str
  | _, _, _, .nil, h => by cases h; rfl
  | _ :: _, .str z :: ds, zs, .cons r rs, h => by
    unfold strL at h
    cases q : strL ds with
    | none => rw [q] at h; cases h
    | some l =>
      rw [q] at h
      cases h
      cases r
      rw [strL_ok rs q]
      rfl
  | _ :: _, .non :: _, _, _, h => by cases h
  | _ :: _, .bl _ :: _, _, _, h => by cases h
  | _ :: _, .int _ :: _, _, _, h => by cases h
  | _ :: _, .tup _ :: _, _, _, h => by cases h
  | _ :: _, .lst _ :: _, _, _, h => by cases h
  | _ :: _, .dct _ :: _, _, _, h => by cases h
  | _ :: _, .ins _ _ :: _, _, _, h => by cases h
  | _ :: _, .err _ _ :: _, _, _, h => by cases h
  | _ :: _, .cls _ :: _, _, _, h => by cases h
  | _ :: _, .ty _ :: _, _, _, h => by cases h
  | _ :: _, .scr _ :: _, _, _, h => by cases h
theorem reps_strL {K : PySem.W.Frag} {H : Hp} : ∀ zs : List Str, Reps K H (zs.map V.str) (zs.map D.str)
  | [] => .nil
  | z :: zs => .cons (.str z) (reps_strL zs)
def splitD : D → List D → Option Sl
  | .str a, [.str b] => if (b.length == 0) = false ∧ a.length + 2 ≤ sizeLine then some (.own (.lst ((Txt.split a b).map D.str))) else none
  | _, _ => none
theorem md_split : ∀ x xs H Q, rMt X.K splitD x xs H Q → (∃ a b, x = .str a ∧ xs = [.str b] ∧ (b.length == 0) = false ∧ a.length + 2 ≤ sizeLine ∧ rNewStrs (Txt.split a b) H Q) := fun x xs H Q ⟨M, d, ds, r, dm, hx, hxs, hg, k⟩ => by
  unfold splitD at hg
  split at hg
  · rename_i a b
    split at hg
    · rename_i hz
      cases hg
      cases hx
      cases hxs with
      | cons r1 rs =>
        cases r1
        cases rs
        exact ⟨a, b, rfl, rfl, hz.1, hz.2, fun p hp => k _ _ (new_lst hp (reps_strL _))⟩
    · cases hg
  · cases hg
def joinD : D → List D → Option Sl
  | .str a, [.lst ds] => match strL ds with
    | some ys => if (ys.map (·.length)).sum + ys.length * a.length ≤ 16777216 then some (.dat (.str (Txt.join a ys))) else none
    | none => none
  | _, _ => none
theorem md_join : ∀ x xs H Q, rMt X.K joinD x xs H Q → (∃ a p, ∃ ys : List Str, x = .str a ∧ xs = [.ref p] ∧ (SqL X.K H p (ys.map V.str) ∨ SqT X.K H p (ys.map V.str)) ∧ (ys.map (·.length)).sum + ys.length * a.length ≤ 16777216 ∧ Q (.str (Txt.join a ys)) H) := fun x xs H Q ⟨M, d, ds, r, dm, hx, hxs, hg, k⟩ => by
  unfold joinD at hg
  split at hg
  · rename_i a ds
    cases hs : strL ds with
    | none => rw [hs] at hg; cases hg
    | some ys =>
      rw [hs] at hg
      dsimp only at hg
      split at hg
      · rename_i hz
        cases hg
        cases hx
        cases hxs with
        | cons r1 rs =>
          cases r1 with
          | lst q rt =>
            cases rs
            have e := strL_ok rt hs
            subst e
            exact ⟨a, _, ys, rfl, rfl, .inl (Evl.sq_of (hid_of q).2), hz, k _ _ nd_str⟩
      · cases hg
  · cases hg
end
/-! ### tuple(range(n)) -/
def tupR : D → Option Sl
  | .int n => if 0 ≤ n ∧ n ≤ 16777216 then some (.dat (.tup (rngD 0 n.toNat))) else none
  | _ => none
def dTupR (f : EM Sl) : EM Sl := f.bind fun x => EM.opt (tupR x.d)
theorem reps_rng {K : PySem.W.Frag} {H : Hp} {n : Int} : Reps K H (rgV 0 n) (rngD 0 n.toNat) := by
  unfold rgV rngD
  rw [Int.sub_zero]
  generalize List.range n.toNat = l
  induction l with
  | nil => exact .nil
  | cons a l ih => exact .cons (.int _) ih
section
variable {X : Cx} {W : WX} {a e : Expr} {fa : EM Sl} {p pos rp rpos : Pos}
theorem de_tupR (hc : X.calm = true) (hg : Gl X "tuple") (hm : X.mg "tuple" = none) (hg' : Gl X "range") (hm' : X.mg "range" = none) (ha : PE X a (tD X.K W fa)) (na : starEach [a] X.env = (false, eval a X.env) :: starEach [] X.env := by rfl)
    (nb : starEach [.Call (.Name "range" rp) [a] [] rpos] X.env = (false, eval (.Call (.Name "range" rp) [a] [] rpos) X.env) :: starEach [] X.env := by rfl) : PE X (.Call (.Name "tuple" p) [.Call (.Name "range" rp) [a] [] rpos] [] pos) (tD X.K W (dTupR fa)) := by
  refine PE.imp (pe_tupRg hc hg hm (prg_1 hg' hm' ha na) nb) fun σ H Q ⟨B, M, Γ, S, h⟩ => tD_use S ?_
  unfold dTupR EM.bind at h
  cases e : fa Γ with
  | no => rw [e] at h; exact h
  | exc c fs g => rw [e] at h; exact h
  | ok x Γ1 =>
    rw [e] at h
    intro v H1 M1 S1 e1 r1
    dsimp only [EM.opt] at h
    cases hx : x.d with
    | int n =>
      rw [hx] at h r1
      unfold tupR at h
      by_cases hz : 0 ≤ n ∧ n ≤ 16777216
      · simp only [hz, and_self, if_true] at h
        cases r1
        exact ⟨n, rfl, RgOk.of_le (by decide) hz.2 (by decide) hz.1, fun q hq => h _ _ M1 ((new_tup S1.dm hq reps_rng).val S1 e1)⟩
      · simp only [hz, if_false] at h
    | _ => rw [hx] at h; exact h.elim
/-! ### f'..' -/
def fmtD (T : EqT) : D → Option Sl
  | .str z => if z.length ≤ sizeLine then some (.dat (.str z)) else none
  | .int i => if i.natAbs.log2 < 1920 then some (.dat (.str (toString i))) else none
  | _ => none
def dFmt (T : EqT) (f : EM Sl) : EM Sl := dUn (fmtD T) f
theorem de_fmt (ha : PE X a (tD X.K W fa)) : PE X (.FormattedValue a (-1) none pos) (tD X.K W (dFmt [] fa)) := by
  refine PE.imp (pe_fmt ha) fun σ H Q h => ?_
  have q := q_un h
  obtain ⟨B, M, Γ, S, q⟩ := q
  refine ⟨B, M, Γ, S, ?_⟩
  cases eg : fa Γ with
  | no => rw [eg] at q; exact q
  | exc c fs g => rw [eg] at q; exact q
  | ok o Γ1 =>
    rw [eg] at q
    intro x H1 M1 vl
    obtain ⟨M2, d, r, dm, rx, hg, kk⟩ := q x H1 M1 vl
    unfold fmtD at hg
    split at hg
    · rename_i z
      split at hg
      · rename_i hz
        cases hg
        cases rx
        exact .inl ⟨z, rfl, hz, kk _ _ nd_str⟩
      · cases hg
    · rename_i i
      split at hg
      · rename_i hz
        cases hg
        cases rx
        exact .inr ⟨i, rfl, hz, kk _ _ nd_str⟩
      · cases hg
    · cases hg
/-- the parts of f'..', one behind the other -/
def joinF : List (EM Sl) → Str → EM Sl
  | [], acc => EM.ret (.dat (.str acc))
  | f :: fs, acc => f.bind fun x Γ => match x.d with
    | .str y => if (acc ++ y).length ≤ sizeLine then joinF fs (acc ++ y) Γ else .no
    | _ => .no
inductive PJD (X : Cx) (W : WX) : List Expr → List (EM Sl) → Prop where
  | nil : PJD X W [] []
  | cons {e : Expr} {f : EM Sl} {es : List Expr} {fs : List (EM Sl)} (h : PE X e (tD X.K W f)) (r : PJD X W es fs) : PJD X W (e :: es) (f :: fs)
theorem PJD.pj {es : List Expr} {fs : List (EM Sl)} (h : PJD X W es fs) : PJ X es (fs.map (tD X.K W)) := by
  induction h with
  | nil => exact .nil
  | cons h _ ih => exact .cons h ih
theorem q_js {K : PySem.W.Frag} {B : Bs} {σ : L2.St} : ∀ {fs : List (EM Sl)} {acc : Str} {M : List Addr} {Γ : Gm} {H : Hp} {Q : VK}, SR K B M Γ σ H → (match joinF fs acc Γ with
    | .ok r Γ' => ∀ v H' M', Val K B M Γ' σ H M' H' v r → Q v H'
    | .exc c fs Γ' => Fail K W B σ c fs Γ'
    | .no => False) → tJs (fs.map (tD K W)) acc σ H fun out H1 => Q (.str out) H1
  | [], acc, M, Γ, H, Q, S, h => h _ H M ⟨S, Evl.Ex.refl _, .str acc⟩
  | f :: fs, acc, M, Γ, H, Q, S, h => by
    refine tD_use S ?_
    unfold joinF EM.bind at h
    cases e : f Γ with
    | no => rw [e] at h; exact h
    | exc c fs g => rw [e] at h; exact h
    | ok x Γ1 =>
      rw [e] at h
      intro v H1 M1 S1 e1 r1
      dsimp only at h
      cases hx : x.d with
      | str y =>
        rw [hx] at h r1
        dsimp only at h
        cases r1
        by_cases hz : (acc ++ y).length ≤ sizeLine
        · rw [if_pos hz] at h
          refine ⟨y, rfl, hz, q_js S1 ?_⟩
          cases ej : joinF fs (acc ++ y) Γ1 with
          | no => rw [ej] at h; exact h
          | exc c fs g => rw [ej] at h; exact h
          | ok r Γ' => rw [ej] at h; exact fun v H' M' q => h v H' M' (q.of_ex e1)
        · rw [if_neg hz] at h
          exact h.elim
      | _ => rw [hx] at h; exact h.elim
theorem de_joined {v1 v2 : Expr} {rest : List Expr} {fs : List (EM Sl)} (h : PJD X W (v1 :: v2 :: rest) fs) : PE X (.JoinedStr (v1 :: v2 :: rest) pos) (tD X.K W (joinF fs Str.empty)) :=
  PE.imp (pe_joined h.pj) fun σ H Q ⟨B, M, Γ, S, q⟩ => q_js S q
/-! ### {} -/
theorem de_dict0 : PE X (.Dict [] [] pos) (tD X.K W (EM.ret (.own (.dct [])))) := PE.imp pe_dnewK fun σ H Q ⟨B, M, Γ, S, h⟩ p hp => by
  have n : New X.K M H (upd H p (.dK [])) (.ref p) (.own (.dct [])) := ⟨p, rfl, .of hp, .of (Evl.Ex.new hp), [], upd_same, .nil⟩
  exact h _ _ M (n.val S (Evl.Ex.refl _))
end
/-! ### keywords -/
theorem PK.imp {X : Cx} {kws : List Keyword} {t t' : TA} (h : PK X kws t) (k : ∀ σ H Q, t' σ H Q → t σ H Q) : PK X kws t' := ⟨fun w pins s σ H Q I q => h.run w pins s σ H Q I (k σ H Q q)⟩
section
variable {X : Cx} {W : WX} {e : Expr} {fe : EM Sl} {kws : List Keyword} {gk : EM (List Ar)} {nm : Option Str} {kpos : Pos}
theorem dk_nil : PK X [] (tDA X.K W dANil) := PK.imp pk_nil fun σ H Q ⟨B, M, Γ, S, h⟩ => h [] H M S (Evl.Ex.refl _) trivial
theorem dk_cons (he : PE X e (tD X.K W fe)) (hr : PK X kws (tDA X.K W gk)) : PK X (⟨nm, e, kpos⟩ :: kws) (tDA X.K W (dACons fe gk)) := by
  refine PK.imp (pk_cons he hr) fun σ H Q ⟨B, M, Γ, S, h⟩ => tD_use S ?_
  unfold dACons EM.bind at h
  cases e : fe Γ with
  | no => rw [e] at h; exact h
  | exc c fs g => rw [e] at h; exact h
  | ok x Γ1 =>
    rw [e] at h
    intro v H1 M1 S1 e1 r1
    refine ⟨B, M1, Γ1, S1, ?_⟩
    simp only at h
    cases e2 : gk Γ1 with
    | no => rw [e2] at h; exact h
    | exc c fs g => rw [e2] at h; exact h
    | ok as Γ2 =>
      rw [e2] at h
      exact fun vs H2 M2 S2 ex av => h (v :: vs) H2 M2 S2 (e1.trans ex) ⟨r1.mono ex, av⟩
end
end Dl
end
section
set_option maxHeartbeats 4000000
/-! Calls with keywords over data. -/
namespace Dl
variable [Tabl]
open PySem PySem.Spec PyProof.Rows L2 Tx He
open Evl (Ex)
def permI {α : Type} (is : List Nat) (l : List α) : List α := is.filterMap fun i => l[i]?
theorem Reps.perm {K : PySem.W.Frag} {H : Hp} {vs : List V} {ds : List D} (r : Reps K H vs ds) : ∀ is : List Nat, Reps K H (permI is vs) (permI is ds)
  | [] => .nil
  | i :: is => by
    unfold permI
    rw [List.filterMap_cons, List.filterMap_cons]
    have hl := r.length
    cases e : ds[i]? with
    | none =>
      have : vs[i]? = none := List.getElem?_eq_none (by have := List.getElem?_eq_none_iff.mp e; omega)
      rw [this]
      exact Reps.perm r is
    | some d =>
      obtain ⟨x, e1, e2⟩ := r.at e
      rw [e1]
      exact .cons e2 (Reps.perm r is)
section
variable {X : Cx} {E : XK} {k n nk : Nat} {f g : Addr} {F : Fn} {x c m : Str} {o : Expr} {fo : EM Sl} {gk : EM (List Ar)} {p pos apos : Pos} {kws : List Keyword} {fd : FuncData} {ps ks : List Str} {gz : List Value → List Value → List Value} {gV : List V → List V → List V} {is : List Nat}
def dMakeK (c : Str) (n nk : Nat) (is : List Nat) (F : Fn) (gk : EM (List Ar)) : EM Sl := gk.bind fun as Γ => match dats as with
  | none => .no
  | some zs => if zs.length = nk ∧ (permI is zs).length + 1 = n then (match F (.par (.ins c []) :: (permI is zs).map Sl.dat) with
    | .ok (.dat .non) [d] => .ok (.dat d) Γ
    | .exc k fs _ => .exc k fs Γ
    | _ => .no) else .no
theorem de_makeK (Mk1 : Mk X.K (ga X.K c) f) (Fp : FnOk X.prog X.w X.K X.mg X.base (L2.CX X.prog X.w) k f fd ps (spD X.K ps.length F)) (hr : Room (k + 1) X.A) (hg : Gl X c) (hm : X.mg c = some (.ref (ga X.K c))) (hb : KBn X.K fd ps 1 ks gz gV) (hgV : ∀ x zs, zs.length = ks.length → gV [x] zs = x :: permI is zs) (tk : Takes X (wx E)) (hkw : PK X kws (tDA X.K (wx E) gk))
    (hall : (backToKw pos (keywordEach kws X.env)).all (·.1.isSome) = true := by rfl) (hks : (backToKw pos (keywordEach kws X.env)).filterMap (·.1) = ks := by rfl) (hdb : (c == ("__debug__" : Str)) = false := by decide)
    (hpl : ((backTo pos (starEach [] X.env)).any (·.1) || (backToKw pos (keywordEach kws X.env)).any (·.1.isNone)) = false := by rfl) :
    PE X (.Call (.Name c p) [] kws pos) (tD X.K (wx E) (dMakeK c ps.length ks.length is F gk)) := by
  refine PE.imp (pe_makeK0 Mk1 Fp hr hg hm hb (pass_of tk) hkw hall hks hdb hpl) fun σ H Q ⟨B, M, Γ, S, h⟩ => ⟨B, M, Γ, S, ?_⟩
  unfold dMakeK EM.bind at h
  cases e : gk Γ with
  | no => rw [e] at h; exact h
  | exc c fs g => rw [e] at h; exact h
  | ok as Γ1 =>
    rw [e] at h
    intro zs H1 M1 S1 e1 av
    dsimp only at h
    cases hd : dats as with
    | none => rw [hd] at h; exact h.elim
    | some ds =>
      rw [hd] at h
      dsimp only at h
      have rs := av.dats hd
      have rl := rs.length
      by_cases hl : ds.length = ks.length ∧ (permI is ds).length + 1 = ps.length
      · rw [if_pos hl] at h
        refine ⟨rfl, by omega, fun x dx hx hdx ne => ?_⟩
        rw [hgV _ _ (by omega)]
        refine ⟨by rw [List.length_cons, (rs.perm is).length]; exact hl.2, q_makeR S1 (rs.perm is) ?_ x dx hx hdx ne⟩
        generalize F (.par (.ins c []) :: (permI is ds).map Sl.dat) = R at h ⊢
        cases R with
        | no => exact h
        | exc k fs qs => exact h
        | ok r qs =>
          cases r with
          | own d => exact h
          | par d => exact h
          | dat d0 =>
            cases d0 with
            | non =>
              cases qs with
              | nil => exact h
              | cons d qs =>
                cases qs with
                | nil => exact fun v H' M' q => h v H' M' (Val.of_ex e1 q)
                | cons _ _ => exact h
            | _ => exact h
      · rw [if_neg hl] at h
        exact h.elim
def dCallK (d : D) (n nk : Nat) (is : List Nat) (F : Fn) (gk : EM (List Ar)) : EM Sl := gk.bind fun as Γ => match dats as with
  | none => .no
  | some zs => if zs.length = nk ∧ (permI is zs).length + 1 = n then callD F (.dat d :: (permI is zs).map Ar.dat) Γ else .no
theorem argv_dats {K : PySem.W.Frag} {M : List Addr} {σ : L2.St} {H : Hp} : ∀ {vs : List V} {ds : List D}, Reps K (hid H M) vs ds → ArgV K M σ H vs (ds.map Ar.dat)
  | _, _, .nil => trivial
  | _, _, .cons r t => ⟨r, argv_dats t⟩
theorem q_callK {K : PySem.W.Frag} {B : Bs} {M : List Addr} {Γ : Gm} {σ : L2.St} {H : Hp} {Q : VK} {d : D} {x : V} {gV : List V → List V → List V} (hgV : ∀ x zs, zs.length = nk → gV [x] zs = x :: permI is zs) (S : SR K B M Γ σ H) (r : Rep K (hid H M) x d) (h : match dCallK d n nk is F gk Γ with
    | .ok r Γ' => ∀ v H' M', Val K B M Γ' σ H M' H' v r → Q v H'
    | .exc c fs Γ' => Fail K (wx E) B σ c fs Γ'
    | .no => False) : tDA K (wx E) gk σ H fun zs H2 => zs.length = nk ∧ spD K n F (gV [x] zs) H2 Q E := by
  refine ⟨B, M, Γ, S, ?_⟩
  unfold dCallK EM.bind at h
  cases e : gk Γ with
  | no => rw [e] at h; exact h
  | exc c fs g => rw [e] at h; exact h
  | ok as Γ1 =>
    rw [e] at h
    intro zs H1 M1 S1 e1 av
    dsimp only at h
    cases hd : dats as with
    | none => rw [hd] at h; exact h.elim
    | some ds =>
      rw [hd] at h
      dsimp only at h
      have rs := av.dats hd
      have rl := rs.length
      by_cases hl : ds.length = nk ∧ (permI is ds).length + 1 = n
      · rw [if_pos hl] at h
        refine ⟨by omega, ?_⟩
        rw [hgV _ _ (by omega)]
        refine ⟨by rw [List.length_cons, (rs.perm is).length]; exact hl.2, ?_⟩
        refine spE_use (as := .dat d :: (permI is ds).map Ar.dat) S1 ⟨r.mono e1, argv_dats (rs.perm is)⟩ ?_
        cases hc : callD F (.dat d :: (permI is ds).map Ar.dat) Γ1 with
        | no => rw [hc] at h; exact h
        | exc c fs g => rw [hc] at h; exact h
        | ok r Γ' => rw [hc] at h; exact fun v H' M' q => h v H' M' (q.of_ex e1)
      · rw [if_neg hl] at h
        exact h.elim
theorem de_cmethK {mc : Value} {q : Addr} {pl : Sem Bool} (he : PE X o (tD X.K (wx E) (dC (.cls c)))) (r : ClX.CRead X.K (ga X.K c) mc) (cm : ClX.CMet X.K (ga X.K c) mc m q g) (Fp : FnOk X.prog X.w X.K X.mg X.base (L2.CX X.prog X.w) k g fd ps (spD X.K ps.length F)) (hr : Room k X.A) (hb : KBn X.K fd ps 1 ks gz gV) (hgV : ∀ x zs, zs.length = ks.length → gV [x] zs = x :: permI is zs) (tk : Takes X (wx E)) (hkw : PK X kws (tDA X.K (wx E) gk))
    (hall : (backToKw pos (keywordEach kws X.env)).all (·.1.isSome) = true := by rfl) (hks : (backToKw pos (keywordEach kws X.env)).filterMap (·.1) = ks := by rfl)
    (hpl : ((backTo pos (starEach [] X.env)).any (·.1) || (backToKw pos (keywordEach kws X.env)).any (·.1.isNone)) = false := by rfl)
    (ht : eval (.Call (.Attribute o m apos) [] kws pos) X.env = (do
      let ov ← eval o X.env
      standAt apos.atName
      let (f, first) ← holding [ov] (getMethod ov m pl)
      callWith pos f first (backTo pos (starEach [] X.env)) (backToKw pos (keywordEach kws X.env))) := by rfl) :
    PE X (.Call (.Attribute o m apos) [] kws pos) (tD X.K (wx E) (dCallK (.cls c) ps.length ks.length is F gk)) := by
  refine PE.imp (pe_cmethK he r cm Fp hr hb (pass_of tk) hkw hall hks hpl ht) fun σ H Q ⟨B, M, Γ, S, h⟩ => ?_
  refine tD_use S ?_
  show ∀ v H1 M1, SR X.K B M1 Γ σ H1 → _
  intro v H1 M1 S1 e1 r1
  have ev : v = V.ref (ga X.K c) := by
    have r2 : Rep X.K (hid H1 M1) v (.cls c) := r1
    cases r2
    rfl
  refine ⟨ev, ?_⟩
  rw [← ev]
  refine q_callK (d := .cls c) hgV S1 r1 ?_
  cases hc : dCallK (.cls c) ps.length ks.length is F gk Γ with
  | no => rw [hc] at h; exact h
  | exc c fs g => rw [hc] at h; exact h
  | ok r Γ' => rw [hc] at h; exact fun v H' M' q => h v H' M' (q.of_ex e1)
def dMethK (c m : Str) (n nk : Nat) (is : List Nat) (F : Fn) (fo : EM Sl) (gk : EM (List Ar)) : EM Sl := fo.bind fun o => if isIns c m o.d = true then dCallK o.d n nk is F gk else fun _ => .no
theorem de_methK {pl : Sem Bool} (he : PE X o (tD X.K (wx E) fo)) (cl : Cls X.K (ga X.K c)) (hm : Meth X.K (ga X.K c) m f) (Fp : FnOk X.prog X.w X.K X.mg X.base (L2.CX X.prog X.w) k f fd ps (spD X.K ps.length F)) (hr : Room k X.A) (hb : KBn X.K fd ps 1 ks gz gV) (hgV : ∀ x zs, zs.length = ks.length → gV [x] zs = x :: permI is zs) (tk : Takes X (wx E)) (hkw : PK X kws (tDA X.K (wx E) gk))
    (hall : (backToKw pos (keywordEach kws X.env)).all (·.1.isSome) = true := by rfl) (hks : (backToKw pos (keywordEach kws X.env)).filterMap (·.1) = ks := by rfl)
    (hpl : ((backTo pos (starEach [] X.env)).any (·.1) || (backToKw pos (keywordEach kws X.env)).any (·.1.isNone)) = false := by rfl)
    (ht : eval (.Call (.Attribute o m apos) [] kws pos) X.env = (do
      let ov ← eval o X.env
      standAt apos.atName
      let (f, first) ← holding [ov] (getMethod ov m pl)
      callWith pos f first (backTo pos (starEach [] X.env)) (backToKw pos (keywordEach kws X.env))) := by rfl) :
    PE X (.Call (.Attribute o m apos) [] kws pos) (tD X.K (wx E) (dMethK c m ps.length ks.length is F fo gk)) := by
  refine PE.imp (pe_methK he cl hm Fp hr hb (pass_of tk) hkw hall hks hpl ht) fun σ H Q ⟨B, M, Γ, S, h⟩ => ?_
  refine tD_use S ?_
  unfold dMethK EM.bind at h
  cases e : fo Γ with
  | no => rw [e] at h; exact h
  | exc c fs g => rw [e] at h; exact h
  | ok o Γ1 =>
    rw [e] at h
    intro x H1 M1 S1 e1 r1
    dsimp only at h
    by_cases hi : isIns c m o.d = true
    · rw [if_pos hi] at h
      obtain ⟨a, dx, fs, q1, q2, q3⟩ := isIns_at hi hid_ex r1
      refine ⟨a, dx, fs, q1, q2, q3, q_callK hgV S1 r1 ?_⟩
      cases hc : dCallK o.d ps.length ks.length is F gk Γ1 with
      | no => rw [hc] at h; exact h
      | exc c fs g => rw [hc] at h; exact h
      | ok r Γ' => rw [hc] at h; exact fun v H' M' q => h v H' M' (q.of_ex e1)
    · rw [if_neg hi] at h
      exact h.elim
/-! ### str.index -/
def indexD : D → List D → Option Sl
  | .str a, [.str b] => match Builtin.Str.occurrences a b 0 a.length 1 with
    | i :: _ => some (.dat (.int (i : Nat)))
    | [] => none
  | _, _ => none
theorem md_index : ∀ x xs H Q, rMt X.K indexD x xs H Q → (∃ a b i rest, x = .str a ∧ xs = [.str b] ∧ Builtin.Str.occurrences a b 0 a.length 1 = i :: rest ∧ Q (.int (i : Nat)) H) := fun x xs H Q ⟨M, d, ds, r, dm, hx, hxs, hg, k⟩ => by
  unfold indexD at hg
  split at hg
  · rename_i a b
    cases ho : Builtin.Str.occurrences a b 0 a.length 1 with
    | nil => rw [ho] at hg; cases hg
    | cons i rest =>
      rw [ho] at hg
      cases hg
      cases hx
      cases hxs with
      | cons r1 rs =>
        cases r1
        cases rs
        exact ⟨a, b, i, rest, rfl, rfl, ho, k _ _ nd_int⟩
  · cases hg
end
end Dl
end
section
set_option maxHeartbeats 4000000
/-! Conveniences for printed derivations. -/
namespace Dl
variable [Tabl]
open PySem PySem.Spec PyProof.Rows L2 Tx He
open Evl (Ex)
section
variable {X : Cx} {W : WX} {e b : Expr} {es : List Expr} {f1 f2 fb fe fj : EM Sl} {gx : EM (List Ar)} {c : Gm → Bool}
theorem dv (i : Nat) {x : Str} {pos : Pos} (hN : X.N[i]? = some x := by rfl) (hv : Vis X.env.scope x := by first | exact Or.inl rfl | exact Or.inr (Or.inl rfl) | exact Or.inr (Or.inr rfl)) (hd : (x == ("__debug__" : Str)) = false := by decide) (hcd : (x == ("__classdict__" : Str)) = false := by decide) : PE X (.Name x pos) (tD X.K W (dVar i)) := de_var hN hv hd hcd
theorem dvix (i : Nat) {x : Str} {pos p : Pos} (hb : PE X b (tD X.K W fb)) (hs : PlainIx b) (hN : X.N[i]? = some x := by rfl) (hv : Vis X.env.scope x := by first | exact Or.inl rfl | exact Or.inr (Or.inl rfl) | exact Or.inr (Or.inr rfl)) (hd : (x == ("__debug__" : Str)) = false := by decide) (hcd : (x == ("__classdict__" : Str)) = false := by decide) : PE X (.Subscript (.Name x p) b pos) (tD X.K W (dIxS i fb)) := de_ixS hN hv hb hs hd hcd
theorem dva (i : Nat) {x : Str} {p : Pos} (hr : PA X es (tDA X.K W gx)) (hN : X.N[i]? = some x := by rfl) (hv : Vis X.env.scope x := by first | exact Or.inl rfl | exact Or.inr (Or.inl rfl) | exact Or.inr (Or.inr rfl)) (hd : (x == ("__debug__" : Str)) = false := by decide) (hcd : (x == ("__classdict__" : Str)) = false := by decide)
    (hs : starEach (.Name x p :: es) X.env = (false, eval (.Name x p) X.env) :: starEach es X.env := by rfl) : PA X (.Name x p :: es) (tDA X.K W (dASlot i gx)) := da_slot hN hv hr hd hcd hs
def dAlt (c : Gm → Bool) (f1 f2 : EM Sl) : EM Sl := fun Γ => if c Γ = true then f1 Γ else f2 Γ
def clsIs (c : Str) (f : EM Sl) : Gm → Bool := fun Γ => match f Γ with
  | .ok x _ => (match x.d with | .ins c' _ => c' == c | _ => false)
  | _ => false
theorem de_alt (h1 : PE X e (tD X.K W f1)) (h2 : PE X e (tD X.K W f2)) : PE X e (tD X.K W (dAlt c f1 f2)) := ⟨fun pins s σ H Q I ⟨B, M, Γ, S, h⟩ => by
  unfold dAlt at h
  by_cases hc : c Γ = true
  · rw [if_pos hc] at h
    exact h1.run pins s σ H Q I ⟨B, M, Γ, S, h⟩
  · rw [if_neg hc] at h
    exact h2.run pins s σ H Q I ⟨B, M, Γ, S, h⟩⟩
end
section
variable {P : Program} {w : World} {K : PySem.W.Frag} {mg : Str → Option Value} {base : Heap} {x qual : Str} {params : Arguments} {body : List Stmt} {scope : Scope} {f : Addr} {fd : FuncData} {ps : List Str}
theorem fun_binds (F : FunD K x qual params body scope [] [] f fd) (h : ∀ (kV doc pm : Value) (an : Option Addr) (cdv ct : Value) (us : List Value), us.length = ps.length → bindArgs (PySem.W.fnOf x qual params body scope .none kV doc pm an cdv ct) ⟨us, []⟩ = pure (ps.zip us)) : Binds K fd ps [] := by
  obtain ⟨oc, od, dV, kV, doc, pm, an, cdv, ct, osl, rfl, lk, hcd, hD, _⟩ := F.ex
  rcases hD with ⟨_, rfl⟩ | ⟨hne, _⟩
  · exact .all (h kV doc pm an cdv ct)
  · exact absurd rfl hne
theorem fun_kbinds (F : FunD K x qual params body scope [] [] f fd) (n : Nat) (ks : List Str) (g : {α : Type} → List α → List α → List α) (hrel : ∀ {vs zs : List V} {us ws : List Value}, Vals vs us → Vals zs ws → Vals (g vs zs) (g us ws))
    (h : ∀ (kV doc pm : Value) (an : Option Addr) (cdv ct : Value) (us ws : List Value), us.length = n → ws.length = ks.length → bindArgs (PySem.W.fnOf x qual params body scope .none kV doc pm an cdv ct) ⟨us, ks.zip ws⟩ = pure (ps.zip (g us ws))) : KBn K fd ps n ks (fun us ws => g us ws) (fun vs zs => g vs zs) := by
  obtain ⟨oc, od, dV, kV, doc, pm, an, cdv, ct, osl, rfl, lk, hcd, hD, _⟩ := F.ex
  rcases hD with ⟨_, rfl⟩ | ⟨hne, _⟩
  · exact ⟨fun s us ws _ l1 l2 => .of_eq (h kV doc pm an cdv ct us ws l1 l2), fun r1 r2 => hrel r1 r2⟩
  · exact absurd rfl hne
/-- the values with a permutation of the keywords behind -/
def gP {α : Type} (is : List Nat) (vs zs : List α) : List α := vs ++ permI is zs
theorem gP_rel {is : List Nat} {vs zs : List V} {us ws : List Value} (r1 : Vals vs us) (r2 : Vals zs ws) : Vals (gP is vs zs) (gP is us ws) := by
  refine r1.append ?_
  have hl := r2.length
  induction is with
  | nil => exact .nil
  | cons i is ih =>
    unfold permI
    rw [List.filterMap_cons, List.filterMap_cons]
    cases e : zs[i]? with
    | none =>
      rw [r2.none_of e]
      exact ih
    | some z =>
      obtain ⟨u, e1, e2⟩ := r2.get e
      rw [e1]
      exact .cons e2 ih
theorem er1_of {n fl : Str} {C : Addr} (hC : C = ga K n) (g : mg n = some (.ref C)) (ox : OexC K C) (me : Meth K C "__init__" f) (ok : FnOk P w K mg base CX0 1 f fd ["self", fl] (spI1 K C fl)) (bnd : Binds K fd ["self", fl] []) : Er1 P w K mg base n fl := by
  subst hC
  exact ⟨g, ox, f, fd, ⟨me.at_, beq_iff_eq.mp me.fn, ok⟩, bnd⟩
theorem er2_of {n fl f2 : Str} {C : Addr} (hC : C = ga K n) (g : mg n = some (.ref C)) (ox : OexC K C) (me : Meth K C "__init__" f) (ok : FnOk P w K mg base CX0 1 f fd ["self", fl, f2] (spI2 K C fl f2)) (bnd : Binds K fd ["self", fl, f2] []) : Er2 P w K mg base n fl f2 := by
  subst hC
  exact ⟨g, ox, f, fd, ⟨me.at_, beq_iff_eq.mp me.fn, ok⟩, bnd⟩
end
/-- THE RULE for a def of the law (repr may be called in it) -/
theorem ok_G {P : Program} {w : World} {K : PySem.W.Frag} {mg : Str → Option Value} {base : Heap} {x qual : Str} {params : Arguments} {body : List Stmt} {scope : Scope} {dvs : List V} {kws : List (Str × V)} {f : Addr} {fd : FuncData} {N ps : List Str} {k : Nat} {g : SM} {CX : CXT} {en : XK → WX}
    (F : FunD K x qual params body scope dvs kws f fd) (S : FnScope N ps scope) (hen : ∀ {E : XK}, en E = wx E ∨ en E = wBot)
    (hbody : ∀ (cdv : Value), cdv = .ref (Hx.cdA K f) → ∀ (A : Around) (outer : List Env) (s : Shared) (H : Hp) (E : XK), A.guards = some [] → Room k (A.deeper (envOfC qual scope s.heap.objs.size f cdv)) →
      PSs (cxOf CX P w K mg base N qual scope f cdv A outer s H E) body (tS K (en E) g)) : FnG P w K mg base CX (k + 1) f fd ps (fun vs H Q E => vs.length = ps.length ∧ tS K (en E) g { nx := fun _ H' => Q .non H', rt := Q } (L2.start N vs) H) := by
  obtain ⟨oc, od, dV, kV, doc, pm, an, cdv, ct, osl, rfl, lk, hcd, _, _⟩ := F.ex
  refine ⟨fun _ _ _ _ h => h.1, fun A outer s H args us vs Q E gd room env0 bnd rel hsp => ?_⟩
  have hcv : cdv = .ref (Hx.cdA K f) := by
    obtain ⟨c, rfl⟩ := He.codeIn_ref hcd
    unfold Hx.cdA
    rw [lk]
  have inHeap : K.In s.heap := env0.mod.kin.keeps fun b o e => (env0.bs b o e).1
  refine codeAny_call_function room.depth (inHeap _ _ lk) rfl S.co S.gen rfl (PySem.W.codeRec_of inHeap hcd) (bnd _ _ _ _ ?_)
  refine wpAny_newFunctionEnv_cells S.kind (fun y hy => ?_) fun env same s1 entered => ?_
  · rcases S.par y.1 (List.of_mem_zip hy).1 with loc | cel
    · exact Or.inl loc
    · exact Or.inr ⟨cel, PySem.W.cellsFrom_some _ _ _ (Or.inl cel)⟩
  · subst same
    refine ⟨(env0.mod.nolimit.keeps fun b o e => (env0.bs b o e).1).keeps entered.toInCall.keep, codeAny_func ?_⟩
    refine wpAny_mono ((hbody cdv hcv A outer s H E gd (room.deeper _)).run [] s1 (L2.start N vs) H _ (inv_start S room.hd env0 hsp.1 rel entered) hsp.2) (fun flow s' ended => ?_) fun _ _ left => left
    cases flow with
    | ret u =>
      obtain ⟨v, σ', H', inv, rv, q⟩ := ended
      exact ⟨v, H', inv.os, inv.bare, inv.base, inv.hok, rv, q⟩
    | next =>
      obtain ⟨σ', H', inv, q⟩ := ended
      exact ⟨V.non, H', inv.os, inv.bare, inv.base, inv.hok, rfl, q⟩
    | brk =>
      obtain ⟨_, _, _, q⟩ := ended
      exact q.elim
    | cont =>
      obtain ⟨_, _, _, q⟩ := ended
      exact q.elim
theorem ok_GD {P : Program} {w : World} {K : PySem.W.Frag} {mg : Str → Option Value} {base : Heap} {x qual : Str} {params : Arguments} {body : List Stmt} {scope : Scope} {dvs : List V} {kws : List (Str × V)} {f : Addr} {fd : FuncData} {N ps : List Str} {k : Nat} {g : SM}
    (F : FunD K x qual params body scope dvs kws f fd) (S : FnScope N ps scope)
    (hbody : ∀ (cdv : Value) (A : Around) (outer : List Env) (s : Shared) (H : Hp) (E : XK), A.guards = some [] → Room k (A.deeper (envOfC qual scope s.heap.objs.size f cdv)) → Takes (cxOf (L2.CX P w) P w K mg base N qual scope f cdv A outer s H E) (wx E) →
      PSs (cxOf (L2.CX P w) P w K mg base N qual scope f cdv A outer s H E) body (tS K (wx E) g)) : FnG P w K mg base (L2.CX P w) (k + 1) f fd ps (spD K ps.length (bodyF N.length g)) := by
  have q := ok_G (CX := L2.CX P w) (en := wx) F S (.inl rfl) fun cdv _ A outer s H E gd hr => hbody cdv A outer s H E gd hr (takes_of rfl rfl rfl rfl)
  exact ⟨fun _ _ _ _ h => h.1, fun A outer s H args us vs Q E gd room env0 bnd rel hsp => q.run A outer s H args us vs Q E gd room env0 bnd rel ⟨hsp.1, body_spD hsp.2⟩⟩
/-- the law itself lets nothing out -/
theorem ok_law {P : Program} {w : World} {K : PySem.W.Frag} {mg : Str → Option Value} {base : Heap} {x qual : Str} {params : Arguments} {body : List Stmt} {scope : Scope} {dvs : List V} {kws : List (Str × V)} {f : Addr} {fd : FuncData} {N ps : List Str} {k : Nat} {g : SM}
    (F : FunD K x qual params body scope dvs kws f fd) (S : FnScope N ps scope)
    (hbody : ∀ (cdv : Value) (A : Around) (outer : List Env) (s : Shared) (H : Hp) (E : XK), A.guards = some [] → Room k (A.deeper (envOfC qual scope s.heap.objs.size f cdv)) →
      PSs (cxOf CX0 P w K mg base N qual scope f cdv A outer s H E) body (tS K wBot g)) : FnG P w K mg base CX0 (k + 1) f fd ps (fun vs H Q _ => vs.length = ps.length ∧ spE K (bodyF N.length g) vs H Q fun _ _ _ => False) := by
  have q := ok_G (CX := CX0) (en := fun _ => wBot) F S (.inr rfl) fun cdv _ A outer s H E gd hr => hbody cdv A outer s H E gd hr
  exact ⟨fun _ _ _ _ h => h.1, fun A outer s H args us vs Q E gd room env0 bnd rel hsp => q.run A outer s H args us vs Q E gd room env0 bnd rel ⟨hsp.1, body_spD (E := fun _ _ _ => False) hsp.2⟩⟩
theorem ok_GDc {P : Program} {w : World} {K : PySem.W.Frag} {mg : Str → Option Value} {base : Heap} {x qual : Str} {params : Arguments} {body : List Stmt} {scope : Scope} {dvs : List V} {kws : List (Str × V)} {f : Addr} {fd : FuncData} {N ps : List Str} {k : Nat} {g : SM}
    (F : FunD K x qual params body scope dvs kws f fd) (S : FnScope N ps scope)
    (hbody : ∀ (cdv : Value), cdv = .ref (Hx.cdA K f) → ∀ (A : Around) (outer : List Env) (s : Shared) (H : Hp) (E : XK), A.guards = some [] → Room k (A.deeper (envOfC qual scope s.heap.objs.size f cdv)) → Takes (cxOf (L2.CX P w) P w K mg base N qual scope f cdv A outer s H E) (wx E) →
      PSs (cxOf (L2.CX P w) P w K mg base N qual scope f cdv A outer s H E) body (tS K (wx E) g)) : FnG P w K mg base (L2.CX P w) (k + 1) f fd ps (spD K ps.length (bodyF N.length g)) := by
  have q := ok_G (CX := L2.CX P w) (en := wx) F S (.inl rfl) fun cdv hcv A outer s H E gd hr => hbody cdv hcv A outer s H E gd hr (takes_of rfl rfl rfl rfl)
  exact ⟨fun _ _ _ _ h => h.1, fun A outer s H args us vs Q E gd room env0 bnd rel hsp => q.run A outer s H args us vs Q E gd room env0 bnd rel ⟨hsp.1, body_spD hsp.2⟩⟩
/-- .. its code object is known -/
theorem ok_lawc {P : Program} {w : World} {K : PySem.W.Frag} {mg : Str → Option Value} {base : Heap} {x qual : Str} {params : Arguments} {body : List Stmt} {scope : Scope} {dvs : List V} {kws : List (Str × V)} {f : Addr} {fd : FuncData} {N ps : List Str} {k : Nat} {g : SM}
    (F : FunD K x qual params body scope dvs kws f fd) (S : FnScope N ps scope)
    (hbody : ∀ (cdv : Value), cdv = .ref (Hx.cdA K f) → ∀ (A : Around) (outer : List Env) (s : Shared) (H : Hp) (E : XK), A.guards = some [] → Room k (A.deeper (envOfC qual scope s.heap.objs.size f cdv)) →
      PSs (cxOf CX0 P w K mg base N qual scope f cdv A outer s H E) body (tS K wBot g)) : FnG P w K mg base CX0 (k + 1) f fd ps (fun vs H Q _ => vs.length = ps.length ∧ spE K (bodyF N.length g) vs H Q fun _ _ _ => False) := by
  have q := ok_G (CX := CX0) (en := fun _ => wBot) F S (.inr rfl) fun cdv hcv A outer s H E gd hr => hbody cdv hcv A outer s H E gd hr
  exact ⟨fun _ _ _ _ h => h.1, fun A outer s H args us vs Q E gd room env0 bnd rel hsp => q.run A outer s H args us vs Q E gd room env0 bnd rel ⟨hsp.1, body_spD (E := fun _ _ _ => False) hsp.2⟩⟩
end Dl
end
section
set_option maxHeartbeats 4000000
/-! (x,) * n for every n. -/
namespace Dl
variable [Tabl]
open PySem PySem.Spec PyProof.Rows L2 Tx He
open Evl (Ex)
/-- times one: the tuple itself -/
theorem tmul_one (at_ : Addr) (its : Array Value) (m : Nat) (dd : Option Addr) (sl : Array (Option Value)) (tk0 : Tok) :
    Meets (Builtin.«tuple.__mul__» ⟨[.ref at_, .int 1 tk0], []⟩) (fun _ R s => s.heap.get? at_ = some { cls := .type "tuple", dict := dd, data := .seq its m, slots := sl } ∧ R (.ok (.ret (Value.ref at_))) s) :=
  .of_wp fun prog w A R st hyp => by
    obtain ⟨hp, gn, dc, tk, os⟩ := st
    obtain ⟨look, fin⟩ := hyp
    have idx := AutoSeq1.idx_int
    have one : (its.isEmpty || (1 : Int) == 1) = true := by simp
    wp_walk using wpAny_loadPart' look
    repeat (first
      | (refine wpAny_ite_false (by decide) ?_; wp_walk using wpAny_loadPart' look)
      | (refine wpAny_ite_true (decide_eq_true one) ?_; wp_walk using wpAny_loadPart' look))
    exact ⟨_, rfl, fin⟩
/-- times zero: an empty tuple -/
theorem tmul_zero (at_ : Addr) (its : Array Value) (m : Nat) (dd : Option Addr) (sl : Array (Option Value)) (tk0 : Tok) (ne : its.isEmpty = false) :
    Meets (Builtin.«tuple.__mul__» ⟨[.ref at_, .int 0 tk0], []⟩) (fun _ R s => s.heap.get? at_ = some { cls := .type "tuple", dict := dd, data := .seq its m, slots := sl } ∧
      R (.ok (.ret (Value.ref s.heap.objs.size))) { s with heap := s.heap.push { cls := Value.type "tuple", data := Data.seq #[] }, toks := s.toks }) :=
  .of_wp fun prog w A R st hyp => by
    obtain ⟨hp, gn, dc, tk, os⟩ := st
    obtain ⟨look, fin⟩ := hyp
    have idx := AutoSeq1.idx_int
    have no1 : (its.isEmpty || (0 : Int) == 1) = false := by rw [ne]; rfl
    have yes0 : (decide ((0 : Int) ≤ 0) || its.isEmpty) = true := by simp
    wp_walk using wpAny_loadPart' look
    repeat (first
      | (refine wpAny_ite_false (by decide) ?_; wp_walk using wpAny_loadPart' look)
      | (refine wpAny_ite_false (decide_eq_false (by rw [no1]; exact Bool.false_ne_true)) ?_; wp_walk using wpAny_loadPart' look)
      | (refine wpAny_ite_true (decide_eq_true yes0) ?_; wp_walk using wpAny_loadPart' look))
    exact ⟨_, rfl, fin⟩
def opMulA : D → D → Option Sl
  | .tup xs, .int k => if xs.length = 1 ∧ 0 ≤ k ∧ k ≤ 100000 then some (.dat (.tup (List.replicate k.toNat xs).flatten)) else none
  | d, e => opMul d e
theorem od_mulA {X : Cx} : OpD X (binaryOp .Mult) opMulA := by
  intro pins s σ H x y v u Q I rx ry hyp
  obtain ⟨M, d, e, r, dm, hx, hy, hg, kk⟩ := hyp
  unfold opMulA at hg
  split at hg
  · rename_i ds cnt
    split at hg
    · rename_i bd
      cases hg
      cases hy
      cases hx with
      | tup ha rs =>
        rename_i a vs
        cases rx
        obtain ⟨tk, rfl⟩ := ry
        have hT : SqT X.K H a vs := Evl.st_of (hid_of ha).2
        obtain ⟨its, rel, ⟨⟨cl, dd, dat, sl⟩, look, hcl, m, hdat⟩, _⟩ := I.tuple hT
        simp only at hcl hdat
        subst hcl hdat
        have len1 : its.length = 1 := by rw [← rel.length, rs.length]; exact bd.1
        have sz1 : its.toArray.size = 1 := by rw [List.size_toArray, len1]
        have nem : its.toArray.isEmpty = false := by
          cases its with
          | nil => cases len1
          | cons _ _ => rfl
        have fr : H s.heap.objs.size = none := I.hok.fresh (Nat.le_refl _)
        have step : wpAny (model X.prog X.w) X.A (call (.builtin "tuple.__mul__") [.ref a, .int cnt tk]) (EP X pins σ Q) X.xe s →
            wpAny (model X.prog X.w) X.A (binaryOp .Mult (.ref a) (.int cnt tk)) (EP X pins σ Q) X.xe s := fun q =>
          wpAny_binaryOp_repeat_ref (U := "int") (T := "tuple") (by decide) ⟨_, look, rfl⟩ (fun z => typeIs_int z cnt tk) noFill_tuple_mul
            F.fills_int_mul F.slot_int_rmul repeat_tuple F.slot_int_index.lookup
            (call_meets F.slot_int_rmul (typeIs_int s cnt tk) F.entry_int_rmul (F.args_int_rmul_2 _ _)
              (int_rmul_tuple cnt tk a its.toArray m dd sl) ⟨look, rfl, ⟨_, look, rfl⟩, q⟩)
        have new : ∀ (ws : List V) (us : List Value) (es : List D), Vals ws us → ws.length ≤ sizeLine → Reps X.K (hid H M) ws es → es = (List.replicate cnt.toNat ds).flatten →
            EP X pins σ Q (.ref s.heap.objs.size) { s with heap := s.heap.push { cls := Value.type "tuple", data := Data.seq us.toArray }, toks := s.toks } := fun ws us es rv hz re ee =>
          ⟨.ref s.heap.objs.size, _, I.laid (t' := s.toks) (o := .tup ws) (fun b ob q => Heap.get?_push_of_some _ q) (Nat.le_refl _)
            ⟨hz, us, rv, IsTup.new _ _⟩, rfl, kk _ _ (by rw [← ee]; exact new_tup dm fr re)⟩
        by_cases h1 : cnt = 1
        · subst h1
          refine step (call_meets F.slot_tuple_mul ⟨_, look, rfl⟩ F.entry_tuple_mul (F.args_tuple_mul_2 _ _) (tmul_one a its.toArray m dd sl tk) ⟨look, ?_⟩)
          refine ⟨.ref a, H, I, rfl, kk _ _ (new_dat ?_)⟩
          have e1 : (List.replicate (1 : Int).toNat ds).flatten = ds := by simp
          rw [e1]
          exact .tup ha rs
        · by_cases h0 : cnt = 0
          · subst h0
            exact step (call_meets F.slot_tuple_mul ⟨_, look, rfl⟩ F.entry_tuple_mul (F.args_tuple_mul_2 _ _) (tmul_zero a its.toArray m dd sl tk nem) ⟨look, new [] [] [] .nil (Nat.zero_le _) .nil rfl⟩)
          · have big : 2 ≤ cnt := by omega
            have prod : ((its.toArray.size : Nat) : Int) * cnt = cnt := by rw [sz1]; simp
            have fl : (List.replicate cnt.toNat its).flatten.length = cnt.toNat := by
              rw [PyProof.Rows.lm_len_rep_flat, len1, Nat.mul_one]
            have lim : cnt.toNat ≤ sizeLine := by rw [sizeLine_eq]; omega
            refine step (call_meets F.slot_tuple_mul ⟨_, look, rfl⟩ F.entry_tuple_mul (F.args_tuple_mul_2 _ _)
              (tuple_mulW a its.toArray m dd sl cnt tk ?_ ?_ ?_ ?_ ?_ ?_) ⟨look, ?_⟩)
            · rw [decide_eq_false (by omega), decide_eq_false (by omega)]
              rfl
            · rw [nem, Bool.false_or]
              exact beq_eq_false_iff_ne.mpr h1
            · rw [nem, Bool.or_false]
              exact decide_eq_false (by omega)
            · rw [prod]
              omega
            · rw [prod]
              unfold Builtin.Tuple.tupleTooMany
              rw [sizeLine_eq]
              exact decide_eq_false (by omega)
            · rw [size_rep, List.size_toArray, fl]
              exact lim
            · rw [size_rep]
              have vl : (List.replicate cnt.toNat vs).flatten.length ≤ sizeLine := by
                rw [PyProof.Rows.lm_len_rep_flat, rs.length, bd.1, Nat.mul_one]
                exact lim
              exact new _ _ _ (rel.rep cnt.toNat) vl (rs.flat cnt.toNat) rfl
    · cases hg
  · exact od_mul pins s σ H x y v u Q I rx ry ⟨M, d, e, r, dm, hx, hy, hg, kk⟩
end Dl
end
section
set_option maxHeartbeats 4000000
/-! Plain lemmas about the operations of the layer (no program). -/
namespace Dl
open PySem PySem.Spec PyProof.Rows L2 Tx He
theorem eqO_int {us : List Str} {tt : List Ck} {T : EqT} {neg : Bool} (i j : Int) : eqO us tt T neg (.int i) (.int j) = some (.dat (.bl (neg ^^ (i == j)))) := by kernel_rfl
theorem pyEs_int (c : List Int) : pyEs (c.map .int) = some (c.map PyData.int) := by
  induction c with
  | nil => rfl
  | cons a c ih => simp [pyEs, pyE, ih]
theorem lay_int (c : List Int) : PyData.canLayAll0 (c.map PyData.int) = true := by
  induction c with
  | nil => rfl
  | cons a c ih => simp [PyData.canLayAll0, PyData.canLay0, ih]
theorem dep_int (c : List Int) : PyData.depthAll (c.map PyData.int) = 0 := by
  induction c with
  | nil => rfl
  | cons a c ih => simp [PyData.depthAll, PyData.depth, ih]
theorem eqv_int : ∀ (c e : List Int), PyData.eqvAll (c.map PyData.int) (e.map PyData.int) = (c == e)
  | [], [] => rfl
  | [], _ :: _ => rfl
  | _ :: _, [] => rfl
  | a :: c, b :: e => by
    simp only [List.map_cons, PyData.eqvAll, PyData.eqv, eqv_int c e]
    rfl
theorem eqP_ints (c e : List Int) : opEqP (.tup (c.map .int)) (.tup (e.map .int)) = some (c == e) := by
  simp [opEqP, pyE, pyEs_int, SeqAt.shaped, PyData.canLay0, lay_int, PyData.depth, dep_int, PyData.eqv, eqv_int]
theorem eqO_ints {us : List Str} {tt : List Ck} {T : EqT} {neg : Bool} (c e : List Int) : eqO us tt T neg (.tup (c.map .int)) (.tup (e.map .int)) = some (.dat (.bl (neg ^^ (c == e)))) := by
  have h : eqO us tt T neg (.tup (c.map .int)) (.tup (e.map .int)) = (opEqP (.tup (c.map .int)) (.tup (e.map .int))).map fun b => .dat (.bl (neg ^^ b)) := rfl
  rw [h, eqP_ints]
  rfl
end Dl
end
section
set_option maxHeartbeats 4000000
/-! The pen of the laws: what _law_draw leaves, whatever its numbers are. -/
namespace Dl
open PySem PySem.Spec PyProof.Rows L2 Tx He
abbrev penD (xs : List Int) (a g : Int) : D := .lst [.lst (xs.map .int), .int a, .int g]
theorem seq_nx {g1 g2 : SM} {Γ Γ1 : Gm} (h : g1 Γ = .nx Γ1) : dSeq g1 g2 Γ = g2 Γ1 := by simp [dSeq, h]
theorem seq_rt {g1 g2 : SM} {Γ Γ1 : Gm} {r : Sl} (h : g1 Γ = .rt r Γ1) : dSeq g1 g2 Γ = .rt r Γ1 := by simp [dSeq, h]
theorem if_t {t : EM Bool} {g1 g2 : SM} {Γ Γ1 : Gm} (h : t Γ = .ok true Γ1) : dIfS t g1 g2 Γ = g1 Γ1 := by simp [dIfS, dThen, h]
theorem if_f {t : EM Bool} {g1 g2 : SM} {Γ Γ1 : Gm} (h : t Γ = .ok false Γ1) : dIfS t g1 g2 Γ = g2 Γ1 := by simp [dIfS, dThen, h]
theorem at0 (x y z : D) : L2.atI [x, y, z] 0 = some x := rfl
theorem at1 (x y z : D) : L2.atI [x, y, z] 1 = some y := rfl
theorem at2 (x y z : D) : L2.atI [x, y, z] 2 = some z := rfl
theorem ix1 : ixN 3 1 = some 1 := rfl
theorem ix2 : ixN 3 2 = some 2 := rfl
section
variable {xs : List Int} {a g n : Int} {s2 s3 s4 s5 s6 : Option Sl}
theorem d_t1 : dTb (dOp opGt (dIxS 0 (dC (.int 2))) (dC (.int 0))) [some (.par (penD xs a g)), some (.dat (.int n)), s2, s3, s4, s5, s6] = .ok (decide (0 < g)) [some (.par (penD xs a g)), some (.dat (.int n)), s2, s3, s4, s5, s6] := by
  simp [at2, dThen, dSet, dRet, dSetIx, EM.bind, EM.ret, EM.opt, dVar, dC, dOp, dTb, asB, dTAnd, dANil, dACons, dLst, dCl, dats, dIxS, ixS, heldD, setC, lstOf, Sl.d, opAdd, opSub, opMulA, opMul, opFdiv, opMod, opPow, opCmp, intD, absD, lenD]
theorem d_s1 (hn : 0 < n) : dSet 2 (dOp opMod (dCl intD (dACons (dIxS 0 (dC (.int 2))) dANil)) (dVar 1)) [some (.par (penD xs a g)), some (.dat (.int n)), s2, s3, s4, s5, s6] = .nx [some (.par (penD xs a g)), some (.dat (.int n)), some (.dat (.int (g % n))), s3, s4, s5, s6] := by
  simp [at2, hn, dThen, dSet, dRet, dSetIx, EM.bind, EM.ret, EM.opt, dVar, dC, dOp, dTb, asB, dTAnd, dANil, dACons, dLst, dCl, dats, dIxS, ixS, heldD, setC, lstOf, Sl.d, opAdd, opSub, opMulA, opMul, opFdiv, opMod, opPow, opCmp, intD, absD, lenD]
theorem d_s2 (hn : 0 < n) (hm : n < 18446744073709551616) : dSetIx 0 (dOp opFdiv (dCl intD (dACons (dIxS 0 (dC (.int 2))) dANil)) (dVar 1)) (dC (.int 2)) [some (.par (penD xs a g)), some (.dat (.int n)), s2, s3, s4, s5, s6] = .nx [some (.par (penD xs a (g / n))), some (.dat (.int n)), s2, s3, s4, s5, s6] := by
  simp [at2, ix2, hn, hm, dThen, dSet, dRet, dSetIx, EM.bind, EM.ret, EM.opt, dVar, dC, dOp, dTb, asB, dTAnd, dANil, dACons, dLst, dCl, dats, dIxS, ixS, heldD, setC, lstOf, Sl.d, opAdd, opSub, opMulA, opMul, opFdiv, opMod, opPow, opCmp, intD, absD, lenD]
theorem d_s3 : dSet 3 (dIxS 0 (dC (.int 1))) [some (.par (penD xs a g)), some (.dat (.int n)), s2, s3, s4, s5, s6] = .nx [some (.par (penD xs a g)), some (.dat (.int n)), s2, some (.dat (.int a)), s4, s5, s6] := by
  simp [at1, dThen, dSet, dRet, dSetIx, EM.bind, EM.ret, EM.opt, dVar, dC, dOp, dTb, asB, dTAnd, dANil, dACons, dLst, dCl, dats, dIxS, ixS, heldD, setC, lstOf, Sl.d, opAdd, opSub, opMulA, opMul, opFdiv, opMod, opPow, opCmp, intD, absD, lenD]
theorem d_s4 {b : Int} : dSetIx 0 (dOp opAdd (dVar 3) (dC (.int 1))) (dC (.int 1)) [some (.par (penD xs a g)), some (.dat (.int n)), s2, some (.dat (.int b)), s4, s5, s6] = .nx [some (.par (penD xs (b + 1) g)), some (.dat (.int n)), s2, some (.dat (.int b)), s4, s5, s6] := by
  simp [ix1, dThen, dSet, dRet, dSetIx, EM.bind, EM.ret, EM.opt, dVar, dC, dOp, dTb, asB, dTAnd, dANil, dACons, dLst, dCl, dats, dIxS, ixS, heldD, setC, lstOf, Sl.d, opAdd, opSub, opMulA, opMul, opFdiv, opMod, opPow, opCmp, intD, absD, lenD]
theorem d_s5 {b c1 c2 : Int} (h0 : 0 ≤ b) (h1 : b ≤ 1000000) : dSet 4 (dOp opAdd (dOp opMulA (dC (.int c1)) (dVar 3)) (dC (.int c2))) [some (.par (penD xs a g)), some (.dat (.int n)), s2, some (.dat (.int b)), s4, s5, s6] = .nx [some (.par (penD xs a g)), some (.dat (.int n)), s2, some (.dat (.int b)), some (.dat (.int (c1 * b + c2))), s5, s6] := by
  have h : -18446744073709551616 < b ∧ b < 18446744073709551616 := by omega
  simp [h.1, h.2, dThen, dSet, dRet, dSetIx, EM.bind, EM.ret, EM.opt, dVar, dC, dOp, dTb, asB, dTAnd, dANil, dACons, dLst, dCl, dats, dIxS, ixS, heldD, setC, lstOf, Sl.d, opAdd, opSub, opMulA, opMul, opFdiv, opMod, opPow, opCmp, intD, absD, lenD]
theorem eq_nil {us : List Str} {tt : List Ck} {T : EqT} (xs : List Int) : eqO us tt T true (.lst (xs.map .int)) (.lst []) = some (.dat (.bl (!xs.isEmpty))) := by
  have h : eqO us tt T true (.lst (xs.map .int)) (.lst []) = (opEqP (.lst (xs.map .int)) (.lst [])).map fun b => .dat (.bl (true ^^ b)) := rfl
  have e : PyData.eqvAll (xs.map PyData.int) [] = xs.isEmpty := by cases xs <;> rfl
  rw [h]
  simp [opEqP, pyE, pyEs_int, pyEs, SeqAt.shaped, PyData.canLay0, lay_int, PyData.canLayAll0, PyData.depth, dep_int, PyData.depthAll, PyData.eqv, e]
theorem at_mod {xs : List Int} (h : xs ≠ []) (a : Int) : ∃ c, L2.atI (xs.map D.int) (a % (xs.length : Int)) = some (.int c) := by
  have hl : 0 < xs.length := List.length_pos_iff.mpr h
  have h1 := Int.emod_nonneg a (b := (xs.length : Int)) (by omega)
  have h2 := Int.emod_lt_of_pos a (b := (xs.length : Int)) (by omega)
  generalize a % (xs.length : Int) = k at h1 h2
  unfold L2.atI ixN
  rw [List.length_map, if_pos h1, if_pos h2]
  simp only [Option.bind_some]
  have h3 : k.toNat < xs.length := by omega
  exact ⟨xs[k.toNat], by simp [List.getElem?_eq_getElem h3]⟩
theorem d_t2 {us : List Str} {tt : List Ck} {T : EqT} : dTb (dOp (eqO us tt T true) (dIxS 0 (dC (.int 0))) (dLst dANil)) [some (.par (penD xs a g)), some (.dat (.int n)), s2, s3, s4, s5, s6] = .ok (!xs.isEmpty) [some (.par (penD xs a g)), some (.dat (.int n)), s2, s3, s4, s5, s6] := by
  simp [at0, eq_nil, dThen, dSet, dRet, dSetIx, EM.bind, EM.ret, EM.opt, dVar, dC, dOp, dTb, asB, dTAnd, dANil, dACons, dLst, dCl, dats, dIxS, ixS, heldD, setC, lstOf, Sl.d, opAdd, opSub, opMulA, opMul, opFdiv, opMod, opPow, opCmp, intD, absD, lenD]
theorem d_s6 {b : Int} (h : xs ≠ []) : ∃ c, dSet 4 (dOp ixD (dIxS 0 (dC (.int 0))) (dOp opMod (dCl intD (dACons (dVar 3) dANil)) (dCl lenD (dACons (dIxS 0 (dC (.int 0))) dANil)))) [some (.par (penD xs a g)), some (.dat (.int n)), s2, some (.dat (.int b)), s4, s5, s6] = .nx [some (.par (penD xs a g)), some (.dat (.int n)), s2, some (.dat (.int b)), some (.dat (.int c)), s5, s6] := by
  obtain ⟨c, hc⟩ := at_mod h b
  have hl : (0 : Int) < (xs.length : Int) := by have := List.length_pos_iff.mpr h; omega
  have hl' : 0 < xs.length := List.length_pos_iff.mpr h
  exact ⟨c, by simp [at0, ixD, hc, hl, hl', dThen, dSet, dRet, dSetIx, EM.bind, EM.ret, EM.opt, dVar, dC, dOp, dTb, asB, dTAnd, dANil, dACons, dLst, dCl, dats, dIxS, ixS, heldD, setC, lstOf, Sl.d, opAdd, opSub, opMulA, opMul, opFdiv, opMod, opPow, opCmp, intD, absD, lenD]⟩
end
end Dl
end
section
set_option maxHeartbeats 4000000
/-! Walks over data, forwards: a block is run statement by statement. -/
namespace Dl
open PySem PySem.Spec PyProof.Rows L2 Tx He
/-- what holds of how a block ends -/
def Run (f : Fl) (Q : Fl → Prop) : Prop := Q f
/-- a def ends with a value -/
def Does (F : Fn) (sls : List Sl) (Q : Sl → List D → Prop) : Prop := ∃ r ps, F sls = .ok r ps ∧ Q r ps
/-- a def raises -/
def Fails (F : Fn) (sls : List Sl) (Q : Str → List (Str × D) → List D → Prop) : Prop := ∃ c fs ps, F sls = .exc c fs ps ∧ Q c fs ps
/-- how a body must end -/
def RtQ (sls : List Sl) (Q : Sl → List D → Prop) : Fl → Prop
  | .rt r Γ => ∃ ps, pars sls Γ = some ps ∧ Q r ps
  | .nx Γ => ∃ ps, pars sls Γ = some ps ∧ Q (.dat .non) ps
  | _ => False
def ExQ (sls : List Sl) (Q : Str → List (Str × D) → List D → Prop) : Fl → Prop
  | .exc c fs Γ => ∃ ps, pars sls Γ = some ps ∧ Q c fs ps
  | _ => False
theorem Does.of {n : Nat} {g : SM} {sls : List Sl} {Q : Sl → List D → Prop} (h : Run (g (sls.map some ++ List.replicate (n - sls.length) none)) (RtQ sls Q)) : Does (bodyF n g) sls Q := by
  unfold Does bodyF
  unfold Run RtQ at h
  cases e : g (sls.map some ++ List.replicate (n - sls.length) none) <;> rw [e] at h <;> dsimp only at h
  case nx Γ => obtain ⟨ps, e2, q⟩ := h; exact ⟨_, ps, by simp [e2], q⟩
  case rt r Γ => obtain ⟨ps, e2, q⟩ := h; exact ⟨r, ps, by simp [e2], q⟩
  all_goals exact h.elim
theorem Fails.of {n : Nat} {g : SM} {sls : List Sl} {Q : Str → List (Str × D) → List D → Prop} (h : Run (g (sls.map some ++ List.replicate (n - sls.length) none)) (ExQ sls Q)) : Fails (bodyF n g) sls Q := by
  unfold Fails bodyF
  unfold Run ExQ at h
  cases e : g (sls.map some ++ List.replicate (n - sls.length) none) <;> rw [e] at h <;> dsimp only at h
  case exc c fs Γ => obtain ⟨ps, e2, q⟩ := h; exact ⟨c, fs, ps, by simp [e2], q⟩
  all_goals exact h.elim
theorem Does.eq {F : Fn} {sls : List Sl} {r : Sl} {ps : List D} (h : Does F sls fun r' ps' => r' = r ∧ ps' = ps) : F sls = .ok r ps := by
  obtain ⟨r', ps', e, rfl, rfl⟩ := h
  exact e
theorem Fails.eq {F : Fn} {sls : List Sl} {c : Str} {fs : List (Str × D)} {ps : List D} (h : Fails F sls fun c' fs' ps' => c' = c ∧ fs' = fs ∧ ps' = ps) : F sls = .exc c fs ps := by
  obtain ⟨c', fs', ps', e, rfl, rfl, rfl⟩ := h
  exact e
section
variable {g g1 g2 r : SM} {f : EM Sl} {t : EM Bool} {Γ Γ1 : Gm} {Q Q' : Fl → Prop} {s : Sl} {b : Bool}
theorem Run.nx (h : g1 Γ = .nx Γ1) (k : Run (g2 Γ1) Q) : Run (dSeq g1 g2 Γ) Q := by
  unfold Run dSeq; rw [h]; exact k
theorem Run.nx1 (h : g1 Γ = .nx Γ1) (k : Q (.nx Γ1)) : Run (g1 Γ) Q := by
  unfold Run; rw [h]; exact k
theorem Run.rt (h : g1 Γ = .rt s Γ1) (k : Q (.rt s Γ1)) : Run (dSeq g1 g2 Γ) Q := by
  unfold Run dSeq; rw [h]; exact k
theorem Run.rt1 (h : g1 Γ = .rt s Γ1) (k : Q (.rt s Γ1)) : Run (g1 Γ) Q := by
  unfold Run; rw [h]; exact k
theorem Run.ex {c : Str} {fs : List (Str × D)} (h : g1 Γ = .exc c fs Γ1) (k : Q (.exc c fs Γ1)) : Run (dSeq g1 g2 Γ) Q := by
  unfold Run dSeq; rw [h]; exact k
theorem Run.ex1 {c : Str} {fs : List (Str × D)} (h : g1 Γ = .exc c fs Γ1) (k : Q (.exc c fs Γ1)) : Run (g1 Γ) Q := by
  unfold Run; rw [h]; exact k
theorem Run.imp (h : Run (g Γ) Q) (k : ∀ f, Q f → Q' f) : Run (g Γ) Q' := k _ h
/-- a statement that may end in several ways -/
theorem Run.seq (h : Run (g1 Γ) fun f => match f with
    | .nx Γ1 => Run (g2 Γ1) Q
    | f => Q f) : Run (dSeq g1 g2 Γ) Q := by
  unfold Run dSeq
  unfold Run at h
  cases e : g1 Γ <;> rw [e] at h <;> exact h
theorem Run.ifT (h : t Γ = .ok true Γ1) (k : Run (g1 Γ1) Q) : Run (dIfS t g1 g2 Γ) Q := by
  unfold Run; rw [if_t h]; exact k
theorem Run.ifF (h : t Γ = .ok false Γ1) (k : Run (g2 Γ1) Q) : Run (dIfS t g1 g2 Γ) Q := by
  unfold Run; rw [if_f h]; exact k
theorem Run.if_ (h : t Γ = .ok b Γ1) (k1 : b = true → Run (g1 Γ1) Q) (k2 : b = false → Run (g2 Γ1) Q) : Run (dIfS t g1 g2 Γ) Q := by
  cases b with
  | true => exact Run.ifT h (k1 rfl)
  | false => exact Run.ifF h (k2 rfl)
theorem Run.ifs (h : Run (dIfS t (dSeq g1 r) (dSeq g2 r) Γ) Q) : Run (dSeq (dIfS t g1 g2) r Γ) Q := by
  unfold Run dSeq dIfS dThen at *
  cases e : t Γ with
  | no => rw [e] at h; exact h
  | exc c fs g => rw [e] at h; exact h
  | ok b Γ1 => rw [e] at h; cases b <;> exact h
theorem Run.assoc {g3 : SM} (h : Run (dSeq g1 (dSeq g2 g3) Γ) Q) : Run (dSeq (dSeq g1 g2) g3 Γ) Q := by
  unfold Run dSeq at *
  cases e : g1 Γ <;> rw [e] at h <;> exact h
/-- an if without an else whose test fails -/
theorem Run.skip (h : t Γ = .ok false Γ1) (k : Run (r Γ1) Q) : Run (dSeq (dIfS t g1 dNext) r Γ) Q := Run.ifs (Run.ifF h (Run.nx rfl k))
theorem Run.ift (h : t Γ = .ok true Γ1) (k : Run (dSeq g1 r Γ1) Q) : Run (dSeq (dIfS t g1 g2) r Γ) Q := Run.ifs (Run.ifT h k)
theorem Run.iff (h : t Γ = .ok false Γ1) (k : Run (dSeq g2 r Γ1) Q) : Run (dSeq (dIfS t g1 g2) r Γ) Q := Run.ifs (Run.ifF h k)
theorem Run.ifb (h : t Γ = .ok b Γ1) (k1 : b = true → Run (dSeq g1 r Γ1) Q) (k2 : b = false → Run (dSeq g2 r Γ1) Q) : Run (dSeq (dIfS t g1 g2) r Γ) Q := Run.ifs (Run.if_ h k1 k2)
/-- a loop by its invariant: items left, slots -/
theorem forL_run {gt : D → Gm → Option Gm} {body : SM} (I : List D → Gm → Prop) (step : ∀ d ds Γ, I (d :: ds) Γ → ∃ Γ1, gt d Γ = some Γ1 ∧ Run (body Γ1) fun f => match f with
    | .nx Γ2 => I ds Γ2
    | .ct Γ2 => I ds Γ2
    | .bk Γ2 => Q (.nx Γ2)
    | f => Q f) (last : ∀ Γ, I [] Γ → Q (.nx Γ)) : ∀ (ds : List D) (Γ : Gm), I ds Γ → Run (forL gt body ds Γ) Q
  | [], Γ, h => last Γ h
  | d :: ds, Γ, h => by
    obtain ⟨Γ1, e, k⟩ := step d ds Γ h
    unfold Run forL
    rw [e]
    unfold Run at k
    dsimp only
    cases e2 : body Γ1 with
    | nx Γ2 => rw [e2] at k; exact forL_run I step last ds Γ2 k
    | ct Γ2 => rw [e2] at k; exact forL_run I step last ds Γ2 k
    | bk Γ2 => rw [e2] at k; exact k
    | rt r Γ2 => rw [e2] at k; exact k
    | exc c fs Γ2 => rw [e2] at k; exact k
    | no => rw [e2] at k; exact k
theorem Run.for_ {it : EM (List D)} {gt : D → Gm → Option Gm} {body : SM} {ds : List D} (h : it Γ = .ok ds Γ1) (k : Run (forL gt body ds Γ1) Q) : Run (dFor it gt body Γ) Q := by
  unfold Run dFor dThen; rw [h]; exact k
/-- a comprehension by its invariant: items left, the list so far, slots -/
theorem lcL_run {gt : D → Gm → Option Gm} {tt : EM Bool} {te : EM Sl} {vs : List Nat} {P : List D → Gm → Prop} (I : List D → List D → Gm → Prop) (step : ∀ d ds acc Γ, I (d :: ds) acc Γ → ∃ Γ1 Γ2, gt d (toPar (wipeG Γ vs)) = some Γ1 ∧
      ((tt Γ1 = .ok false Γ2 ∧ Γ2.length = Γ.length ∧ I ds acc (wipeG (fromPar (wipeG Γ vs) Γ2) vs)) ∨
       (tt Γ1 = .ok true Γ2 ∧ ∃ y Γ3, te Γ2 = .ok y Γ3 ∧ acc.length < sizeLine ∧ Γ3.length = Γ.length ∧ I ds (acc ++ [y.d]) (wipeG (fromPar (wipeG Γ vs) Γ3) vs))))
    (last : ∀ acc Γ, I [] acc Γ → P acc Γ) : ∀ (ds acc : List D) (Γ : Gm), I ds acc Γ → ∃ acc' Γ', lcL gt tt te vs ds acc Γ = .ok acc' Γ' ∧ P acc' Γ'
  | [], acc, Γ, h => ⟨acc, Γ, rfl, last acc Γ h⟩
  | d :: ds, acc, Γ, h => by
    obtain ⟨Γ1, Γ2, e, h | h⟩ := step d ds acc Γ h
    · obtain ⟨e2, hl, h⟩ := h
      obtain ⟨acc', Γ', e3, p⟩ := lcL_run I step last ds acc _ h
      refine ⟨acc', Γ', ?_, p⟩
      unfold lcL
      simp only [e, e2, hl, if_true]
      exact e3
    · obtain ⟨e2, y, Γ3, e3, ha, hl, h⟩ := h
      obtain ⟨acc', Γ', e4, p⟩ := lcL_run I step last ds _ _ h
      refine ⟨acc', Γ', ?_, p⟩
      unfold lcL
      simp only [e, e2, e3, ha, hl, and_self, if_true]
      exact e4
/-- a comprehension without draws: a map, where the slots stay -/
theorem lcL_map {gt : D → Gm → Option Gm} {te : EM Sl} {vs : List Nat} {Γ0 : Gm} {h : D → D} (G : D → Gm) (h0 : wipeG Γ0 vs = Γ0) (hl : ∀ d, (G d).length = Γ0.length) (hb : ∀ d, wipeG (fromPar Γ0 (G d)) vs = Γ0) : ∀ (ds acc : List D), (∀ d ∈ ds, gt d (toPar Γ0) = some (G d) ∧ ∃ s, te (G d) = .ok s (G d) ∧ s.d = h d) → acc.length + ds.length ≤ sizeLine → lcL gt (EM.ret true) te vs ds acc Γ0 = .ok (acc ++ ds.map h) Γ0
  | [], acc, _, _ => by simp [lcL]
  | d :: ds, acc, e, hz => by
    obtain ⟨e1, s, e2, e3⟩ := e d (List.mem_cons_self ..)
    have ha : acc.length < sizeLine := by simp at hz; omega
    have ih := lcL_map (gt := gt) (te := te) (h := h) G h0 hl hb ds (acc ++ [h d]) (fun x hx => e x (List.mem_cons_of_mem _ hx)) (by simp at hz ⊢; omega)
    unfold lcL
    rw [h0]
    simp only [e1, EM.ret, e2, e3, ha, hl, and_self, if_true, hb]
    rw [ih]
    simp
end
end Dl
end
section
set_option maxHeartbeats 4000000
/-! The pen of the laws: what _law_draw leaves, whatever its numbers are (three forms). -/
namespace Dl
open PySem PySem.Spec PyProof.Rows L2 Tx He
/-- what a draw below n leaves -/
def Drawn (xs : List Int) (a n : Int) (r : Sl) (ps : List D) : Prop := ∃ i a' g', r = .dat (.int i) ∧ ps = [penD xs a' g'] ∧ 0 ≤ i ∧ i < n ∧ a ≤ a' ∧ a' ≤ a + 1
section
variable (us : List Str) (tt : List Ck) (T : EqT) (n1 n2 m1 k1 k2 M1 c3 k3 c4 M2 sh : Int)
def drawTop : SM := dIfS (dTb (dOp opGt (dIxS 0 (dC (.int 2))) (dC (.int 0)))) (dSeq (dSet 2 (dOp opMod (dCl intD (dACons (dIxS 0 (dC (.int 2))) dANil)) (dVar 1)))
    (dSeq (dSetIx 0 (dOp opFdiv (dCl intD (dACons (dIxS 0 (dC (.int 2))) dANil)) (dVar 1)) (dC (.int 2)))
    (dRet (dVar 2)))) dNext
def drawMid (rest : SM) : SM := dSeq (dSet 3 (dIxS 0 (dC (.int 1))))
    (dSeq (dSetIx 0 (dOp opAdd (dVar 3) (dC (.int 1))) (dC (.int 1)))
    (dSeq (dSet 4 (dOp opAdd (dOp opMulA (dC (.int n1)) (dVar 3)) (dC (.int n2))))
    (dSeq (dIfS (dTb (dOp (eqO us tt T true) (dIxS 0 (dC (.int 0))) (dLst dANil))) (dSet 4 (dOp ixD (dIxS 0 (dC (.int 0))) (dOp opMod (dCl intD (dACons (dVar 3) dANil)) (dCl lenD (dACons (dIxS 0 (dC (.int 0))) dANil))))) dNext)
    (dSeq (dIfS (dTAnd (dTb (dOp opLt (dVar 3) (dCl lenD (dACons (dIxS 0 (dC (.int 0))) dANil)))) (dTb (dOp opGe (dCl absD (dACons (dVar 4) dANil)) (dOp opPow (dC (.int 10)) (dC (.int 18)))))) (dSeq (dSet 5 (dOp opAdd (dOp opMulA (dC (.int 2)) (dOp opSub (dCl absD (dACons (dVar 4) dANil)) (dOp opPow (dC (.int 10)) (dC (.int 18))))) (dCl intD (dACons (dOp opLt (dVar 4) (dC (.int 0))) dANil))))
    (dSeq (dSetIx 0 (dOp opFdiv (dCl intD (dACons (dVar 5) dANil)) (dVar 1)) (dC (.int 2)))
    (dRet (dOp opMod (dCl intD (dACons (dVar 5) dANil)) (dVar 1))))) dNext) rest))))
def drawM1 : SM := dSet 6 (dOp opMod (dCl intD (dACons (dOp opPow (dOp opAdd (dOp opAdd (dOp opMod (dCl intD (dACons (dVar 4) dANil)) (dC (.int m1))) (dOp opMulA (dC (.int k1)) (dVar 3))) (dC (.int k2))) (dC (.int 5))) dANil)) (dC (.int M1)))
def drawEnd : SM := dRet (dOp opMod (dCl intD (dACons (dOp opFdiv (dVar 6) (dC (.int sh))) dANil)) (dVar 1))
def drawA : SM := dSeq drawTop (drawMid us tt T n1 n2
    (dSeq (drawM1 m1 k1 k2 M1)
    (dSeq (dSet 6 (dOp opMod (dCl intD (dACons (dOp opPow (dOp opAdd (dOp opAdd (dOp opMulA (dVar 6) (dOp opAdd (dOp opMulA (dC (.int 2)) (dVar 3)) (dC (.int c3)))) (dOp opMulA (dOp opMulA (dC (.int k3)) (dVar 3)) (dVar 3))) (dC (.int c4))) (dC (.int 3))) dANil)) (dC (.int M2))))
    (drawEnd sh))))
def drawB : SM := dSeq drawTop (drawMid us tt T n1 n2
    (dSeq (drawM1 m1 k1 k2 M1)
    (dSeq (dSet 6 (dOp opMod (dCl intD (dACons (dOp opPow (dOp opAdd (dOp opAdd (dOp opMulA (dVar 6) (dOp opAdd (dOp opMulA (dC (.int 2)) (dVar 3)) (dC (.int c3)))) (dOp opMulA (dC (.int k3)) (dOp opPow (dVar 3) (dC (.int 2))))) (dC (.int c4))) (dC (.int 3))) dANil)) (dC (.int M2))))
    (drawEnd sh))))
def drawC : SM := dSeq drawTop (drawMid us tt T n1 n2
    (dSeq (drawM1 m1 k1 k2 M1)
    (dSeq (dSet 6 (dOp opAdd (dOp opAdd (dOp opMulA (dVar 6) (dOp opAdd (dOp opMulA (dC (.int 2)) (dVar 3)) (dC (.int c3)))) (dOp opMulA (dOp opMulA (dC (.int k3)) (dVar 3)) (dVar 3))) (dC (.int c4))))
    (dSeq (dSet 6 (dOp opMod (dCl intD (dACons (dOp opPow (dVar 6) (dC (.int 3))) dANil)) (dC (.int M2))))
    (drawEnd sh)))))
end
theorem natAbs_lt {i : Int} {n : Nat} (h0 : 0 ≤ i) (h : i < (n : Int)) : i.natAbs < n := by omega
section
variable {us : List Str} {tt : List Ck} {T : EqT} {n1 n2 m1 k1 k2 M1 c3 k3 c4 M2 sh : Int}
variable {xs : List Int} {a g n : Int}
/-- the way of a great number's digits -/
theorem draw_top {r : SM} (hg : 0 < g) (hn : 0 < n) (hm : n < 18446744073709551616) {Q : Fl → Prop} (h : Q (.rt (.dat (.int (g % n))) [some (.par (penD xs a (g / n))), some (.dat (.int n)), some (.dat (.int (g % n))), none, none, none, none])) : Run (dSeq drawTop r [some (.par (penD xs a g)), some (.dat (.int n)), none, none, none, none, none]) Q := by
  have d1 : decide (0 < g) = true := decide_eq_true hg
  unfold drawTop
  refine Run.ift (by rw [d_t1, d1]) (Run.assoc (Run.nx (d_s1 hn) (Run.assoc (Run.nx (d_s2 hn hm) (Run.rt (s := .dat (.int (g % n))) (by simp [dRet, dThen, dVar]) h)))))
theorem dm0 {s2 s5 s6 : Option Sl} {b : Int} {c : Int} : dTAnd (dTb (dOp opLt (dVar 3) (dCl lenD (dACons (dIxS 0 (dC (.int 0))) dANil)))) (dTb (dOp opGe (dCl absD (dACons (dVar 4) dANil)) (dOp opPow (dC (.int 10)) (dC (.int 18))))) [some (.par (penD xs a g)), some (.dat (.int n)), s2, some (.dat (.int b)), some (.dat (.int c)), s5, s6] = .ok (decide (b < (xs.length : Int)) && decide (1000000000000000000 ≤ (if c < 0 then -c else c))) [some (.par (penD xs a g)), some (.dat (.int n)), s2, some (.dat (.int b)), some (.dat (.int c)), s5, s6] := by
  by_cases h : b < (xs.length : Int) <;> simp [h, at0, bodyF, dRet, dRetN, dThen, dSeq, dExpr, dSet, dIfS, dNext, dRetS, dAsg, gD, gDNil, gDCons, gDTup, gDLst, dFor, dSetIx, dApp, dSetF, dSup, dRaise, dRaise1, dRaise2, EM.bind, EM.ret, EM.opt, dVar, dC, dOp, dUn, dTr, dTb, asB, dTAnd, dTOr, dTNot, dAnd, dOr, dNot, dIfE, dChain, dANil, dACons, dASlot, dAStar, seqD, dCl, dTup, dLst, dCall, callD, dCall1, sRes, slots, zipS, putB, putS, arP, arD, arS, datsS, dats, dMake, dMakeL, dMakeK, dCallK, dMethK, dMeth, dCm, dFld, dProp, dAlt, clsIs, isCls, isIns, dIxS, ixS, heldD, setC, lstOf, putD, pars, Sl.d, truth, opAdd, opSub, opMulA, opMul, opFdiv, opMod, opPow, opNeg, opCmp, dItL, dItT, dItA, permI, dONone, dOSome, intOf, dSl, slD, dBm, isStr, isLst, dTupR, tupR, joinF, dFmt, fmtD, lenD, absD]
theorem draw_mid {rest : SM} {s2 : Option Sl} (hg : ¬ 0 < g) (ha : 0 ≤ a) (hb : a ≤ 1000000) (hn : 0 < n) (hm : n < 18446744073709551616) {Q : Fl → Prop}
    (h1 : ∀ G u : Int, Q (.rt (.dat (.int (G % n))) [some (.par (penD xs (a + 1) (G / n))), some (.dat (.int n)), s2, some (.dat (.int a)), some (.dat (.int u)), some (.dat (.int G)), none]))
    (h2 : ∀ u : Int, Run (rest [some (.par (penD xs (a + 1) g)), some (.dat (.int n)), s2, some (.dat (.int a)), some (.dat (.int u)), none, none]) Q) : Run (drawMid us tt T n1 n2 rest [some (.par (penD xs a g)), some (.dat (.int n)), s2, none, none, none, none]) Q := by
  unfold drawMid
  refine Run.nx d_s3 (Run.nx d_s4 (Run.nx (d_s5 ha hb) ?_))
  have key : ∀ u : Int, Run (dSeq (dIfS (dTAnd (dTb (dOp opLt (dVar 3) (dCl lenD (dACons (dIxS 0 (dC (.int 0))) dANil)))) (dTb (dOp opGe (dCl absD (dACons (dVar 4) dANil)) (dOp opPow (dC (.int 10)) (dC (.int 18)))))) (dSeq (dSet 5 (dOp opAdd (dOp opMulA (dC (.int 2)) (dOp opSub (dCl absD (dACons (dVar 4) dANil)) (dOp opPow (dC (.int 10)) (dC (.int 18))))) (dCl intD (dACons (dOp opLt (dVar 4) (dC (.int 0))) dANil))))
    (dSeq (dSetIx 0 (dOp opFdiv (dCl intD (dACons (dVar 5) dANil)) (dVar 1)) (dC (.int 2)))
    (dRet (dOp opMod (dCl intD (dACons (dVar 5) dANil)) (dVar 1))))) dNext) rest [some (.par (penD xs (a + 1) g)), some (.dat (.int n)), s2, some (.dat (.int a)), some (.dat (.int u)), none, none]) Q := by
    intro u
    refine Run.ifb dm0 (fun _ => ?_) (fun _ => Run.nx rfl (h2 u))
    refine Run.assoc (Run.nx (Γ1 := [some (.par (penD xs (a + 1) g)), some (.dat (.int n)), s2, some (.dat (.int a)), some (.dat (.int u)), some (.dat (.int (2 * ((if u < 0 then -u else u) - 1000000000000000000) + (if u < 0 then 1 else 0)))), none]) ?_ (Run.assoc (Run.nx (Γ1 := [some (.par (penD xs (a + 1) ((2 * ((if u < 0 then -u else u) - 1000000000000000000) + (if u < 0 then 1 else 0)) / n))), some (.dat (.int n)), s2, some (.dat (.int a)), some (.dat (.int u)), some (.dat (.int (2 * ((if u < 0 then -u else u) - 1000000000000000000) + (if u < 0 then 1 else 0)))), none]) ?_ (Run.rt (s := .dat (.int ((2 * ((if u < 0 then -u else u) - 1000000000000000000) + (if u < 0 then 1 else 0)) % n))) ?_ (h1 _ u)))))
    · by_cases h : u < 0 <;> simp [h, at0, bodyF, dRet, dRetN, dThen, dSeq, dExpr, dSet, dIfS, dNext, dRetS, dAsg, gD, gDNil, gDCons, gDTup, gDLst, dFor, dSetIx, dApp, dSetF, dSup, dRaise, dRaise1, dRaise2, EM.bind, EM.ret, EM.opt, dVar, dC, dOp, dUn, dTr, dTb, asB, dTAnd, dTOr, dTNot, dAnd, dOr, dNot, dIfE, dChain, dANil, dACons, dASlot, dAStar, seqD, dCl, dTup, dLst, dCall, callD, dCall1, sRes, slots, zipS, putB, putS, arP, arD, arS, datsS, dats, dMake, dMakeL, dMakeK, dCallK, dMethK, dMeth, dCm, dFld, dProp, dAlt, clsIs, isCls, isIns, dIxS, ixS, heldD, setC, lstOf, putD, pars, Sl.d, truth, opAdd, opSub, opMulA, opMul, opFdiv, opMod, opPow, opNeg, opCmp, dItL, dItT, dItA, permI, dONone, dOSome, intOf, dSl, slD, dBm, isStr, isLst, dTupR, tupR, joinF, dFmt, fmtD, lenD, absD, intD]
    · simp [hn, hm, ix2, at0, bodyF, dRet, dRetN, dThen, dSeq, dExpr, dSet, dIfS, dNext, dRetS, dAsg, gD, gDNil, gDCons, gDTup, gDLst, dFor, dSetIx, dApp, dSetF, dSup, dRaise, dRaise1, dRaise2, EM.bind, EM.ret, EM.opt, dVar, dC, dOp, dUn, dTr, dTb, asB, dTAnd, dTOr, dTNot, dAnd, dOr, dNot, dIfE, dChain, dANil, dACons, dASlot, dAStar, seqD, dCl, dTup, dLst, dCall, callD, dCall1, sRes, slots, zipS, putB, putS, arP, arD, arS, datsS, dats, dMake, dMakeL, dMakeK, dCallK, dMethK, dMeth, dCm, dFld, dProp, dAlt, clsIs, isCls, isIns, dIxS, ixS, heldD, setC, lstOf, putD, pars, Sl.d, truth, opAdd, opSub, opMulA, opMul, opFdiv, opMod, opPow, opNeg, opCmp, dItL, dItT, dItA, permI, dONone, dOSome, intOf, dSl, slD, dBm, isStr, isLst, dTupR, tupR, joinF, dFmt, fmtD, lenD, absD, intD]
    · simp [hn, hm, ix2, at0, bodyF, dRet, dRetN, dThen, dSeq, dExpr, dSet, dIfS, dNext, dRetS, dAsg, gD, gDNil, gDCons, gDTup, gDLst, dFor, dSetIx, dApp, dSetF, dSup, dRaise, dRaise1, dRaise2, EM.bind, EM.ret, EM.opt, dVar, dC, dOp, dUn, dTr, dTb, asB, dTAnd, dTOr, dTNot, dAnd, dOr, dNot, dIfE, dChain, dANil, dACons, dASlot, dAStar, seqD, dCl, dTup, dLst, dCall, callD, dCall1, sRes, slots, zipS, putB, putS, arP, arD, arS, datsS, dats, dMake, dMakeL, dMakeK, dCallK, dMethK, dMeth, dCm, dFld, dProp, dAlt, clsIs, isCls, isIns, dIxS, ixS, heldD, setC, lstOf, putD, pars, Sl.d, truth, opAdd, opSub, opMulA, opMul, opFdiv, opMod, opPow, opNeg, opCmp, dItL, dItT, dItA, permI, dONone, dOSome, intOf, dSl, slD, dBm, isStr, isLst, dTupR, tupR, joinF, dFmt, fmtD, lenD, absD, intD]
  cases hx : xs.isEmpty with
  | true => exact Run.skip (by rw [d_t2, hx]; rfl) (key _)
  | false =>
    have hne : xs ≠ [] := fun z => by simp [z] at hx
    obtain ⟨c, e⟩ := d_s6 (a := a + 1) (g := g) (n := n) (b := a) (s2 := s2) (s4 := some (.dat (.int (n1 * a + n2)))) (s5 := none) (s6 := none) hne
    exact Run.ift (by rw [d_t2, hx]; rfl) (Run.nx e (key c))
theorem pw5 {i : Int} (h : i.natAbs < 2 ^ 64) (k : Int) (h0 : 0 ≤ k) (h1 : k ≤ 1000000) : opPow (.int i) (.int k) = some (.dat (.int (i ^ k.toNat))) := by
  have : 0 ≤ k ∧ k ≤ 1000000 ∧ i.natAbs < 2 ^ 64 := ⟨h0, h1, h⟩
  simp only [opPow, this, if_pos]
  simp
structure DrawOk (m1 k1 k2 M1 c3 k3 c4 M2 sh : Int) : Prop where
  m : 0 < m1 ∧ m1 < 4294967296
  k : 0 ≤ k1 ∧ k1 < 1000000
  k' : 0 ≤ k2 ∧ k2 < 1000000
  M : 0 < M1 ∧ M1 < 4294967296
  c : 0 ≤ c3 ∧ c3 < 1000000
  k3 : 0 ≤ k3 ∧ k3 < 1000000
  c4 : 0 ≤ c4 ∧ c4 < 1000000
  M2 : 0 < M2
  s : 0 < sh ∧ sh < 1000000
theorem draw_m1 {r : SM} {p : Sl} {s2 s5 s6 : Option Sl} {u : Int} {Q : Fl → Prop} (ha : 0 ≤ a) (hb : a ≤ 1000000) (ok : DrawOk m1 k1 k2 M1 c3 k3 c4 M2 sh)
    (h : ∀ v : Int, 0 ≤ v → v < M1 → Run (r [some p, some (.dat (.int n)), s2, some (.dat (.int a)), some (.dat (.int u)), s5, some (.dat (.int v))]) Q) : Run (dSeq (drawM1 m1 k1 k2 M1) r [some p, some (.dat (.int n)), s2, some (.dat (.int a)), some (.dat (.int u)), s5, s6]) Q := by
  have e0 := Int.emod_nonneg u (b := m1) (by have := ok.m; omega)
  have e1 := Int.emod_lt_of_pos u (b := m1) ok.m.1
  have em : m1 < 4294967296 := ok.m.2
  have t : k1 * a ≤ 1000000 * 1000000 := Int.mul_le_mul (by have := ok.k; omega) hb ha (by decide)
  have t0 : 0 ≤ k1 * a := Int.mul_nonneg ok.k.1 ha
  have w1 : -18446744073709551616 < k1 ∧ k1 < 18446744073709551616 := by have := ok.k; omega
  have w2 := ok.k'
  have hM := ok.M
  refine Run.nx (Γ1 := [some p, some (.dat (.int n)), s2, some (.dat (.int a)), some (.dat (.int u)), s5, some (.dat (.int ((u % m1 + k1 * a + k2) ^ 5 % M1)))]) ?_ (h _ (Int.emod_nonneg _ (by omega)) (Int.emod_lt_of_pos _ hM.1))
  have pw := pw5 (i := u % m1 + k1 * a + k2) (by omega) 5 (by decide) (by decide)
  simp [drawM1, pw, ok.m.1, w1.1, w1.2, hM.1, intD, opCmp, opAdd, opMulA, opMul, opMod, dThen, dSet, EM.bind, EM.ret, EM.opt, dVar, dC, dOp, dANil, dACons, dCl, dats, Sl.d]
theorem draw_end {p : Sl} {s2 s3 s4 s5 : Option Sl} {v : Int} {Q : Fl → Prop} (hn : 0 < n) (ok : DrawOk m1 k1 k2 M1 c3 k3 c4 M2 sh)
    (h : Q (.rt (.dat (.int (v / sh % n))) [some p, some (.dat (.int n)), s2, s3, s4, s5, some (.dat (.int v))])) : Run (drawEnd sh [some p, some (.dat (.int n)), s2, s3, s4, s5, some (.dat (.int v))]) Q := by
  refine Run.rt1 ?_ h
  have s1 : sh < 18446744073709551616 := by have := ok.s; omega
  simp [drawEnd, ok.s.1, s1, hn, intD, opFdiv, opMod, dThen, dRet, EM.bind, EM.ret, EM.opt, dVar, dC, dOp, dANil, dACons, dCl, dats, Sl.d]
theorem draw_num {v : Int} (ha : 0 ≤ a) (hb : a ≤ 1000000) (ok : DrawOk m1 k1 k2 M1 c3 k3 c4 M2 sh) (h0 : 0 ≤ v) (h1 : v < M1) : (v * (2 * a + c3) + k3 * a * a + c4).natAbs < 2 ^ 64 := by
  have hM := ok.M
  have hc := ok.c
  have hk := ok.k3
  have h4 := ok.c4
  have t1 : v * (2 * a + c3) ≤ 4294967296 * 3000000 := Int.mul_le_mul (by omega) (by omega) (by omega) (by decide)
  have t2 : 0 ≤ v * (2 * a + c3) := Int.mul_nonneg h0 (by omega)
  have t3 : k3 * a ≤ 1000000 * 1000000 := Int.mul_le_mul (by omega) hb ha (by decide)
  have t4 : 0 ≤ k3 * a := Int.mul_nonneg hk.1 ha
  have t5 : k3 * a * a ≤ 1000000 * 1000000 * 1000000 := Int.mul_le_mul t3 hb ha (by decide)
  have t6 : 0 ≤ k3 * a * a := Int.mul_nonneg t4 ha
  generalize v * (2 * a + c3) = A at *
  generalize k3 * a * a = B at *
  have e : (2 : Nat) ^ 64 = 18446744073709551616 := by decide
  omega
theorem drawn_rt {xs : List Int} {a n i a' g' : Int} {Γ : Gm} (hi : 0 ≤ i) (hn : i < n) (h1 : a ≤ a') (h2 : a' ≤ a + 1) : RtQ [.par (penD xs a g), .dat (.int n)] (Drawn xs a n) (.rt (.dat (.int i)) (some (.par (penD xs a' g')) :: some (.dat (.int n)) :: Γ)) := ⟨_, rfl, i, a', g', rfl, rfl, hi, hn, h1, h2⟩
theorem draw_A (ok : DrawOk m1 k1 k2 M1 c3 k3 c4 M2 sh) (ha : 0 ≤ a) (hb : a ≤ 1000000) (hn : 0 < n) (hm : n < 18446744073709551616) : Does (bodyF 7 (drawA us tt T n1 n2 m1 k1 k2 M1 c3 k3 c4 M2 sh)) [.par (penD xs a g), .dat (.int n)] (Drawn xs a n) := by
  refine Does.of ?_
  show Run (drawA us tt T n1 n2 m1 k1 k2 M1 c3 k3 c4 M2 sh [some (.par (penD xs a g)), some (.dat (.int n)), none, none, none, none, none]) _
  by_cases hg : 0 < g
  · exact draw_top hg hn hm (drawn_rt (Int.emod_nonneg _ (by omega)) (Int.emod_lt_of_pos _ hn) (by omega) (by omega))
  · refine Run.skip (by rw [d_t1, decide_eq_false hg]) (draw_mid hg ha hb hn hm (fun G u => drawn_rt (Int.emod_nonneg _ (by omega)) (Int.emod_lt_of_pos _ hn) (by omega) (by omega)) fun u => draw_m1 ha hb ok fun v h0 h1 => ?_)
    have pw := pw5 (draw_num ha hb ok h0 h1) 3 (by decide) (by decide)
    have wa : -18446744073709551616 < a ∧ a < 18446744073709551616 := by omega
    have wv : -18446744073709551616 < v ∧ v < 18446744073709551616 := by have := ok.M; omega
    refine Run.nx (Γ1 := [some (.par (penD xs (a + 1) g)), some (.dat (.int n)), none, some (.dat (.int a)), some (.dat (.int u)), none, some (.dat (.int ((v * (2 * a + c3) + k3 * a * a + c4) ^ 3 % M2)))]) ?_ (draw_end hn ok (drawn_rt (Int.emod_nonneg _ (by omega)) (Int.emod_lt_of_pos _ hn) (by omega) (by omega)))
    simp [pw, ok.M2, wa.1, wa.2, wv.1, wv.2, intD, opAdd, opMulA, opMul, opMod, dThen, dSet, EM.bind, EM.ret, EM.opt, dVar, dC, dOp, dANil, dACons, dCl, dats, Sl.d]
theorem draw_B (ok : DrawOk m1 k1 k2 M1 c3 k3 c4 M2 sh) (ha : 0 ≤ a) (hb : a ≤ 1000000) (hn : 0 < n) (hm : n < 18446744073709551616) : Does (bodyF 7 (drawB us tt T n1 n2 m1 k1 k2 M1 c3 k3 c4 M2 sh)) [.par (penD xs a g), .dat (.int n)] (Drawn xs a n) := by
  refine Does.of ?_
  show Run (drawB us tt T n1 n2 m1 k1 k2 M1 c3 k3 c4 M2 sh [some (.par (penD xs a g)), some (.dat (.int n)), none, none, none, none, none]) _
  by_cases hg : 0 < g
  · exact draw_top hg hn hm (drawn_rt (Int.emod_nonneg _ (by omega)) (Int.emod_lt_of_pos _ hn) (by omega) (by omega))
  · refine Run.skip (by rw [d_t1, decide_eq_false hg]) (draw_mid hg ha hb hn hm (fun G u => drawn_rt (Int.emod_nonneg _ (by omega)) (Int.emod_lt_of_pos _ hn) (by omega) (by omega)) fun u => draw_m1 ha hb ok fun v h0 h1 => ?_)
    have nm := draw_num ha hb ok h0 h1
    have ea : k3 * a ^ 2 = k3 * a * a := by rw [Int.pow_succ, Int.pow_succ, Int.pow_zero, Int.one_mul, Int.mul_assoc]
    rw [← ea] at nm
    have pw := pw5 nm 3 (by decide) (by decide)
    have pa := pw5 (i := a) (Nat.lt_of_lt_of_le (show a.natAbs < 2000000 by omega) (by decide)) 2 (by decide) (by decide)
    have wa : -18446744073709551616 < a ∧ a < 18446744073709551616 := by omega
    have wv : -18446744073709551616 < v ∧ v < 18446744073709551616 := by have := ok.M; omega
    have wk : -18446744073709551616 < k3 ∧ k3 < 18446744073709551616 := by have := ok.k3; omega
    refine Run.nx (Γ1 := [some (.par (penD xs (a + 1) g)), some (.dat (.int n)), none, some (.dat (.int a)), some (.dat (.int u)), none, some (.dat (.int ((v * (2 * a + c3) + k3 * a ^ 2 + c4) ^ 3 % M2)))]) ?_ (draw_end hn ok (drawn_rt (Int.emod_nonneg _ (by omega)) (Int.emod_lt_of_pos _ hn) (by omega) (by omega)))
    simp at pw pa
    simp [pw, pa, ok.M2, wa.1, wa.2, wv.1, wv.2, wk.1, wk.2, intD, opAdd, opMulA, opMul, opMod, dThen, dSet, EM.bind, EM.ret, EM.opt, dVar, dC, dOp, dANil, dACons, dCl, dats, Sl.d]
theorem draw_C (ok : DrawOk m1 k1 k2 M1 c3 k3 c4 M2 sh) (ha : 0 ≤ a) (hb : a ≤ 1000000) (hn : 0 < n) (hm : n < 18446744073709551616) : Does (bodyF 7 (drawC us tt T n1 n2 m1 k1 k2 M1 c3 k3 c4 M2 sh)) [.par (penD xs a g), .dat (.int n)] (Drawn xs a n) := by
  refine Does.of ?_
  show Run (drawC us tt T n1 n2 m1 k1 k2 M1 c3 k3 c4 M2 sh [some (.par (penD xs a g)), some (.dat (.int n)), none, none, none, none, none]) _
  by_cases hg : 0 < g
  · exact draw_top hg hn hm (drawn_rt (Int.emod_nonneg _ (by omega)) (Int.emod_lt_of_pos _ hn) (by omega) (by omega))
  · refine Run.skip (by rw [d_t1, decide_eq_false hg]) (draw_mid hg ha hb hn hm (fun G u => drawn_rt (Int.emod_nonneg _ (by omega)) (Int.emod_lt_of_pos _ hn) (by omega) (by omega)) fun u => draw_m1 ha hb ok fun v h0 h1 => ?_)
    have pw := pw5 (draw_num ha hb ok h0 h1) 3 (by decide) (by decide)
    have wa : -18446744073709551616 < a ∧ a < 18446744073709551616 := by omega
    have wv : -18446744073709551616 < v ∧ v < 18446744073709551616 := by have := ok.M; omega
    refine Run.nx (Γ1 := [some (.par (penD xs (a + 1) g)), some (.dat (.int n)), none, some (.dat (.int a)), some (.dat (.int u)), none, some (.dat (.int (v * (2 * a + c3) + k3 * a * a + c4)))]) ?_ (Run.nx (Γ1 := [some (.par (penD xs (a + 1) g)), some (.dat (.int n)), none, some (.dat (.int a)), some (.dat (.int u)), none, some (.dat (.int ((v * (2 * a + c3) + k3 * a * a + c4) ^ 3 % M2)))]) ?_ (draw_end hn ok (drawn_rt (Int.emod_nonneg _ (by omega)) (Int.emod_lt_of_pos _ hn) (by omega) (by omega))))
    · simp [wa.1, wa.2, wv.1, wv.2, intD, opAdd, opMulA, opMul, opMod, dThen, dSet, EM.bind, EM.ret, EM.opt, dVar, dC, dOp, dANil, dACons, dCl, dats, Sl.d]
    · simp [pw, ok.M2, intD, opAdd, opMulA, opMul, opMod, dThen, dSet, EM.bind, EM.ret, EM.opt, dVar, dC, dOp, dANil, dACons, dCl, dats, Sl.d]
end
end Dl
end
section
set_option maxHeartbeats 4000000
/-! A pen, its numbers left open. -/
namespace Dl
open PySem PySem.Spec PyProof.Rows L2 Tx He
/-- a pen of which at most k numbers were drawn -/
def PenAt (k : Int) (d : D) : Prop := ∃ xs a g, d = penD xs a g ∧ 0 ≤ a ∧ a ≤ k
theorem PenAt.mono {k k' : Int} {d : D} (h : PenAt k d) (e : k ≤ k') : PenAt k' d := let ⟨xs, a, g, h1, h2, h3⟩ := h; ⟨xs, a, g, h1, h2, Int.le_trans h3 e⟩
theorem draw_pen {F : Fn} {k n : Int} {d : D} (h : PenAt k d) (hk : k ≤ 1000000) (hd : ∀ {xs : List Int} {a g : Int}, 0 ≤ a → a ≤ 1000000 → Does F [.par (penD xs a g), .dat (.int n)] (Drawn xs a n)) : ∃ i d', F [.par d, .dat (.int n)] = .ok (.dat (.int i)) [d'] ∧ 0 ≤ i ∧ i < n ∧ PenAt (k + 1) d' := by
  obtain ⟨xs, a, g, rfl, ha, hb⟩ := h
  obtain ⟨r, ps, e, i, a', g', rfl, rfl, h1, h2, h3, h4⟩ := hd (xs := xs) (g := g) ha (by omega)
  exact ⟨i, _, e, h1, h2, xs, a', g', rfl, by omega, by omega⟩
/-- a pick: one of the list's items -/
theorem at_in {xs : List D} {i : Int} (h0 : 0 ≤ i) (h1 : i < (xs.length : Int)) : ∃ x ∈ xs, L2.atI xs i = some x := by
  unfold L2.atI ixN
  rw [if_pos h0, if_pos h1]
  simp only [Option.bind_some]
  have h : i.toNat < xs.length := by omega
  exact ⟨xs[i.toNat], List.getElem_mem h, List.getElem?_eq_getElem h⟩
end Dl
end
section
set_option maxHeartbeats 4000000
/-! Evaluation lemmas for simp: each combinator as it is applied. -/
namespace Dl
open PySem PySem.Spec PyProof.Rows L2 Tx He
def Rs.an {α β : Type} (r : Rs α) (k : α → Gm → Rs β) : Rs β := match r with
  | .ok a Γ => k a Γ
  | .exc c fs g => .exc c fs g
  | .no => .no
def Rs.fl {α : Type} (r : Rs α) (k : α → Gm → Fl) : Fl := match r with
  | .ok a Γ => k a Γ
  | .exc c fs g => .exc c fs g
  | .no => .no
def rO {α : Type} (o : Option α) (Γ : Gm) : Rs α := match o with
  | some a => .ok a Γ
  | none => .no
section
variable {α β : Type} {a : α} {Γ Γ1 : Gm} {k : α → Gm → Rs β} {kf : α → Gm → Fl} {c : Str} {fs : List (Str × D)}
@[simp] theorem an_ok : (Rs.ok a Γ).an k = k a Γ := rfl
@[simp] theorem an_exc : (Rs.exc c fs Γ : Rs α).an k = .exc c fs Γ := rfl
@[simp] theorem an_no : (Rs.no : Rs α).an k = .no := rfl
@[simp] theorem fl_ok : (Rs.ok a Γ).fl kf = kf a Γ := rfl
@[simp] theorem fl_exc : (Rs.exc c fs Γ : Rs α).fl kf = .exc c fs Γ := rfl
@[simp] theorem fl_no : (Rs.no : Rs α).fl kf = .no := rfl
@[simp] theorem rO_some : rO (some a) Γ = .ok a Γ := rfl
@[simp] theorem rO_none : rO (none : Option α) Γ = .no := rfl
theorem an_ite {p : Prop} [Decidable p] {x y : Rs α} : (if p then x else y).an k = if p then x.an k else y.an k := by split <;> rfl
theorem fl_ite {p : Prop} [Decidable p] {x y : Rs α} : (if p then x else y).fl kf = if p then x.fl kf else y.fl kf := by split <;> rfl
@[simp] theorem ev_bind {m : EM α} {k : α → EM β} : EM.bind m k Γ = (m Γ).an (fun a Γ1 => k a Γ1) := by unfold EM.bind Rs.an; cases m Γ <;> rfl
@[simp] theorem ev_ret : EM.ret a Γ = .ok a Γ := rfl
@[simp] theorem ev_opt {o : Option α} : EM.opt o Γ = rO o Γ := by cases o <;> rfl
end
section
variable {Γ Γ1 : Gm} {d e : D} {s : Sl} {fa fb fc : EM Sl} {ta tb : EM Bool} {i n : Nat} {g g' : D → D → Option Sl} {ga : EM (List Ar)} {c f : Str} {F : Fn}
@[simp] theorem sd_dat : Sl.d (.dat d) = d := rfl
@[simp] theorem sd_own : Sl.d (.own d) = d := rfl
@[simp] theorem sd_par : Sl.d (.par d) = d := rfl
def varR (o : Option (Option Sl)) (i : Nat) (Γ : Gm) : Rs Sl := match o with
  | some (some (.dat d)) => .ok (.dat d) Γ
  | some (some (.own d)) => .ok (.dat d) (Γ.set i (some (.dat d)))
  | _ => .no
@[simp] theorem varR_dat : varR (some (some (.dat d))) i Γ = .ok (.dat d) Γ := rfl
@[simp] theorem varR_own : varR (some (some (.own d))) i Γ = .ok (.dat d) (Γ.set i (some (.dat d))) := rfl
@[simp] theorem ev_var : dVar i Γ = varR Γ[i]? i Γ := rfl
@[simp] theorem ev_c : dC d Γ = .ok (.dat d) Γ := rfl
@[simp] theorem ev_op : dOp g fa fb Γ = (fa Γ).an fun x Γ1 => (fb Γ1).an fun y Γ2 => rO (g x.d y.d) Γ2 := by unfold dOp; simp
@[simp] theorem ev_un {g : D → Option Sl} : dUn g fa Γ = (fa Γ).an fun x Γ1 => rO (g x.d) Γ1 := by unfold dUn; simp
@[simp] theorem ev_tr : dTr fa Γ = (fa Γ).an fun x Γ1 => rO (truth x.d) Γ1 := by unfold dTr; simp
@[simp] theorem ev_tb : dTb fa Γ = (fa Γ).an fun x Γ1 => rO (asB x.d) Γ1 := by unfold dTb; simp
@[simp] theorem asB_bl {b : Bool} : asB (.bl b) = some b := rfl
def tAndR (r : Rs Bool) (g : EM Bool) : Rs Bool := r.an fun b Γ => if b = true then g Γ else .ok false Γ
def tOrR (r : Rs Bool) (g : EM Bool) : Rs Bool := r.an fun b Γ => if b = true then .ok true Γ else g Γ
@[simp] theorem ev_tand : dTAnd ta tb Γ = tAndR (ta Γ) tb := by unfold dTAnd tAndR EM.bind Rs.an; cases ta Γ <;> dsimp only; split <;> rfl
@[simp] theorem ev_tor : dTOr ta tb Γ = tOrR (ta Γ) tb := by unfold dTOr tOrR EM.bind Rs.an; cases ta Γ <;> dsimp only; split <;> rfl
@[simp] theorem tAndR_t : tAndR (.ok true Γ) tb = tb Γ := rfl
@[simp] theorem tAndR_f : tAndR (.ok false Γ) tb = .ok false Γ := rfl
@[simp] theorem tAndR_x {fs : List (Str × D)} : tAndR (.exc c fs Γ) tb = .exc c fs Γ := rfl
@[simp] theorem tOrR_t : tOrR (.ok true Γ) tb = .ok true Γ := rfl
@[simp] theorem tOrR_f : tOrR (.ok false Γ) tb = tb Γ := rfl
@[simp] theorem tOrR_x {fs : List (Str × D)} : tOrR (.exc c fs Γ) tb = .exc c fs Γ := rfl
theorem tAndR_b {b : Bool} : tAndR (.ok b Γ) tb = if b = true then tb Γ else .ok false Γ := rfl
theorem tOrR_b {b : Bool} : tOrR (.ok b Γ) tb = if b = true then .ok true Γ else tb Γ := rfl
@[simp] theorem ev_tnot : dTNot ta Γ = (ta Γ).an fun b Γ1 => .ok (!b) Γ1 := by unfold dTNot; simp
def andR (o : Option Bool) (x : Sl) (g : EM Sl) (Γ : Gm) : Rs Sl := match o with
  | some true => g Γ
  | some false => .ok (.dat x.d) Γ
  | none => .no
def orR (o : Option Bool) (x : Sl) (g : EM Sl) (Γ : Gm) : Rs Sl := match o with
  | some true => .ok (.dat x.d) Γ
  | some false => g Γ
  | none => .no
@[simp] theorem andR_t : andR (some true) s fb Γ = fb Γ := rfl
@[simp] theorem andR_f : andR (some false) s fb Γ = .ok (.dat s.d) Γ := rfl
@[simp] theorem orR_t : orR (some true) s fb Γ = .ok (.dat s.d) Γ := rfl
@[simp] theorem orR_f : orR (some false) s fb Γ = fb Γ := rfl
theorem andR_b {b : Bool} : andR (some b) s fb Γ = if b = true then fb Γ else .ok (.dat s.d) Γ := by cases b <;> rfl
theorem orR_b {b : Bool} : orR (some b) s fb Γ = if b = true then .ok (.dat s.d) Γ else fb Γ := by cases b <;> rfl
@[simp] theorem ev_and : dAnd fa fb Γ = (fa Γ).an fun x Γ1 => andR (truth x.d) x fb Γ1 := by unfold dAnd; simp; try rfl
@[simp] theorem ev_or : dOr fa fb Γ = (fa Γ).an fun x Γ1 => orR (truth x.d) x fb Γ1 := by unfold dOr; simp; try rfl
@[simp] theorem ev_not : dNot fa Γ = (fa Γ).an fun x Γ1 => rO ((truth x.d).map fun k => .dat (.bl (!k))) Γ1 := by unfold dNot; simp
def ifR (r : Rs Bool) (f g : EM Sl) : Rs Sl := r.an fun b Γ => if b = true then f Γ else g Γ
@[simp] theorem ev_ifE : dIfE ta fa fb Γ = ifR (ta Γ) fa fb := by unfold dIfE ifR EM.bind Rs.an; cases ta Γ <;> dsimp only; split <;> rfl
@[simp] theorem ifR_t : ifR (.ok true Γ) fa fb = fa Γ := rfl
@[simp] theorem ifR_f : ifR (.ok false Γ) fa fb = fb Γ := rfl
theorem ifR_b {b : Bool} : ifR (.ok b Γ) fa fb = if b = true then fa Γ else fb Γ := rfl
def chR (o : Option Sl) (g' : D → D → Option Sl) (y : Sl) (fc : EM Sl) (Γ : Gm) : Rs Sl := match o with
  | some (.dat (.bl true)) => (fc Γ).an fun z Γ1 => rO (g' y.d z.d) Γ1
  | some (.dat (.bl false)) => .ok (.dat (.bl false)) Γ
  | _ => .no
@[simp] theorem chR_t : chR (some (.dat (.bl true))) g' s fc Γ = (fc Γ).an fun z Γ1 => rO (g' s.d z.d) Γ1 := rfl
@[simp] theorem chR_f : chR (some (.dat (.bl false))) g' s fc Γ = .ok (.dat (.bl false)) Γ := rfl
theorem chR_b {b : Bool} : chR (some (.dat (.bl b))) g' s fc Γ = if b = true then (fc Γ).an fun z Γ1 => rO (g' s.d z.d) Γ1 else .ok (.dat (.bl false)) Γ := by cases b <;> rfl
@[simp] theorem ev_chain : dChain g g' fa fb fc Γ = (fa Γ).an fun x Γ1 => (fb Γ1).an fun y Γ2 => chR (g x.d y.d) g' y fc Γ2 := by
  unfold dChain
  simp only [ev_bind]
  rfl
/-! arguments -/
@[simp] theorem ev_anil : dANil Γ = .ok [] Γ := rfl
@[simp] theorem ev_acons : dACons fa ga Γ = (fa Γ).an fun x Γ1 => (ga Γ1).an fun as Γ2 => .ok (.dat x.d :: as) Γ2 := by unfold dACons; simp
def slotR (o : Option (Option Sl)) (i : Nat) (ga : EM (List Ar)) (Γ : Gm) : Rs (List Ar) := match o with
  | some (some (.own _)) => (ga Γ).an fun as Γ2 => .ok (.slot i :: as) Γ2
  | some (some (.par _)) => (ga Γ).an fun as Γ2 => .ok (.slot i :: as) Γ2
  | _ => .no
@[simp] theorem slotR_own : slotR (some (some (.own d))) i ga Γ = (ga Γ).an fun as Γ2 => .ok (.slot i :: as) Γ2 := rfl
@[simp] theorem slotR_par : slotR (some (some (.par d))) i ga Γ = (ga Γ).an fun as Γ2 => .ok (.slot i :: as) Γ2 := rfl
@[simp] theorem ev_aslot : dASlot i ga Γ = slotR Γ[i]? i ga Γ := by unfold dASlot slotR; simp only [ev_bind, ev_ret]; try rfl
def starR (o : Option (List D)) (ga : EM (List Ar)) (Γ : Gm) : Rs (List Ar) := match o with
  | some ds => (ga Γ).an fun as Γ2 => .ok (ds.map Ar.dat ++ as) Γ2
  | none => .no
@[simp] theorem starR_some {ds : List D} : starR (some ds) ga Γ = (ga Γ).an fun as Γ2 => .ok (ds.map Ar.dat ++ as) Γ2 := rfl
@[simp] theorem ev_astar : dAStar fa ga Γ = (fa Γ).an fun x Γ1 => starR (seqD x.d) ga Γ1 := by
  unfold dAStar
  simp only [ev_bind, ev_ret]
  rfl
@[simp] theorem seqD_lst {xs : List D} : seqD (.lst xs) = some xs := rfl
@[simp] theorem seqD_tup {xs : List D} : seqD (.tup xs) = some xs := rfl
/-- a plain call's step; its law is no rfl-law, so that the kernel never unfolds g -/
def bindO {α β : Type} (o : Option α) (g : α → Option β) : Option β := o.bind g
@[simp] theorem bindO_some {α β : Type} (a : α) (g : α → Option β) : bindO (some a) g = g a := Eq.trans (Eq.refl _) (Eq.refl _)
@[simp] theorem bindO_none {α β : Type} (g : α → Option β) : bindO none g = none := Eq.trans (Eq.refl _) (Eq.refl _)
@[simp] theorem ev_cl {g : List D → Option Sl} : dCl g ga Γ = (ga Γ).an fun as Γ1 => rO (bindO (dats as) g) Γ1 := by unfold dCl bindO; simp
@[simp] theorem dats_nil : dats [] = some [] := rfl
@[simp] theorem dats_cons {as : List Ar} : dats (.dat d :: as) = (dats as).map (d :: ·) := rfl
@[simp] theorem dats_map {ds : List D} : dats (ds.map Ar.dat) = some ds := by
  induction ds with
  | nil => rfl
  | cons d ds ih => simp [ih]
@[simp] theorem dats_mapf {α : Type} {h : α → D} {ds : List α} : dats (ds.map (Ar.dat ∘ h)) = some (ds.map h) := by
  induction ds with
  | nil => rfl
  | cons d ds ih => simp [ih]
@[simp] theorem dats_mapf' {α : Type} {h : α → D} {ds : List α} : dats (ds.map fun x => Ar.dat (h x)) = some (ds.map h) := dats_mapf
def tupL (ds : List D) : Option Sl := if ds.length ≤ sizeLine then some (.dat (.tup ds)) else none
def lstL (ds : List D) : Option Sl := if ds.length ≤ sizeLine then some (.own (.lst ds)) else none
@[simp] theorem ev_tup : dTup ga Γ = (ga Γ).an fun as Γ1 => rO ((dats as).bind tupL) Γ1 := by unfold dTup; simp; try rfl
@[simp] theorem ev_lst : dLst ga Γ = (ga Γ).an fun as Γ1 => rO ((dats as).bind lstL) Γ1 := by unfold dLst; simp; try rfl
@[simp] theorem tupL_0 : tupL [] = some (.dat (.tup [])) := rfl
@[simp] theorem lstL_0 : lstL [] = some (.own (.lst [])) := rfl
theorem len_size {n : Nat} (h : n ≤ 1000000) : n ≤ sizeLine := Nat.le_trans h (by rw [sizeLine_eq]; decide)
theorem tupL_ok {ds : List D} (h : ds.length ≤ 1000000) : tupL ds = some (.dat (.tup ds)) := by unfold tupL; rw [if_pos (len_size h)]
theorem lstL_ok {ds : List D} (h : ds.length ≤ 1000000) : lstL ds = some (.own (.lst ds)) := by unfold lstL; rw [if_pos (len_size h)]
@[simp] theorem tupL_c {x : D} {ds : List D} (h : (x :: ds).length ≤ 1000000) : tupL (x :: ds) = some (.dat (.tup (x :: ds))) := tupL_ok h
@[simp] theorem lstL_c {x : D} {ds : List D} (h : (x :: ds).length ≤ 1000000) : lstL (x :: ds) = some (.own (.lst (x :: ds))) := lstL_ok h
/-! calls -/
def sR1 (o : Option (Option Sl)) (l : Option (List Sl)) : Option (List Sl) := match o with
  | some (some (.own d)) => l.map (.par d :: ·)
  | some (some (.par d)) => l.map (.par d :: ·)
  | _ => none
@[simp] theorem sR1_own {l : Option (List Sl)} : sR1 (some (some (.own d))) l = l.map (.par d :: ·) := rfl
@[simp] theorem sR1_par {l : Option (List Sl)} : sR1 (some (some (.par d))) l = l.map (.par d :: ·) := rfl
@[simp] theorem sRes_nil : sRes Γ [] = some [] := rfl
@[simp] theorem sRes_dat {as : List Ar} : sRes Γ (.dat d :: as) = (sRes Γ as).map (.dat d :: ·) := rfl
@[simp] theorem sRes_slot {as : List Ar} : sRes Γ (.slot i :: as) = sR1 Γ[i]? (sRes Γ as) := rfl
@[simp] theorem sRes_map {ds : List D} : sRes Γ (ds.map Ar.dat) = some (ds.map Sl.dat) := by
  induction ds with
  | nil => rfl
  | cons d ds ih => simp [ih]
@[simp] theorem sRes_mapf {α : Type} {h : α → D} {ds : List α} : sRes Γ (ds.map (Ar.dat ∘ h)) = some (ds.map fun x => Sl.dat (h x)) := by
  induction ds with
  | nil => rfl
  | cons d ds ih => simp [ih]
@[simp] theorem sRes_mapf' {α : Type} {h : α → D} {ds : List α} : sRes Γ (ds.map fun x => Ar.dat (h x)) = some (ds.map fun x => Sl.dat (h x)) := sRes_mapf
@[simp] theorem slots_nil : slots [] = [] := rfl
@[simp] theorem slots_dat {as : List Ar} : slots (.dat d :: as) = slots as := rfl
@[simp] theorem slots_slot {as : List Ar} : slots (.slot i :: as) = i :: slots as := rfl
@[simp] theorem slots_map {ds : List D} : slots (ds.map Ar.dat) = [] := by
  induction ds with
  | nil => rfl
  | cons d ds ih => simp [ih]
@[simp] theorem slots_mapf {α : Type} {h : α → D} {ds : List α} : slots (ds.map (Ar.dat ∘ h)) = [] := by
  induction ds with
  | nil => rfl
  | cons d ds ih => simp [ih]
@[simp] theorem slots_mapf' {α : Type} {h : α → D} {ds : List α} : slots (ds.map fun x => Ar.dat (h x)) = [] := slots_mapf
@[simp] theorem zipS_nil : zipS [] [] = [] := rfl
@[simp] theorem zipS_dat {as : List Ar} {ps : List D} : zipS (.dat d :: as) ps = zipS as ps := by cases ps <;> rfl
@[simp] theorem zipS_slot {as : List Ar} {ps : List D} : zipS (.slot i :: as) (d :: ps) = (i, d) :: zipS as ps := rfl
@[simp] theorem zipS_map {ds ps : List D} : zipS (ds.map Ar.dat) ps = [] := by
  induction ds with
  | nil => cases ps <;> rfl
  | cons d ds ih => simp [ih]
@[simp] theorem zipS_mapf {α : Type} {h : α → D} {ds : List α} {ps : List D} : zipS (ds.map (Ar.dat ∘ h)) ps = [] := by
  induction ds with
  | nil => cases ps <;> rfl
  | cons d ds ih => simp [ih]
@[simp] theorem zipS_mapf' {α : Type} {h : α → D} {ds : List α} {ps : List D} : zipS (ds.map fun x => Ar.dat (h x)) ps = [] := zipS_mapf
@[simp] theorem putB_e : putB [] n Γ = Γ := putB_nil n Γ
@[simp] theorem putB_c {l : List (Nat × D)} : putB ((i, d) :: l) 0 Γ = setC (putB l 0 Γ) i d := by
  have hget : ∀ j, (setC (putB l 0 Γ) i d)[j]? = if i = j then Γ[j]?.map (putS (some d)) else Γ[j]?.map (putS (l.lookup j)) := by
    intro j
    have e0 : (putB l 0 Γ)[i]? = Γ[i]?.map (putS (l.lookup i)) := by rw [putB_get, Nat.zero_add]
    have ej : (putB l 0 Γ)[j]? = Γ[j]?.map (putS (l.lookup j)) := by rw [putB_get, Nat.zero_add]
    have hl : (putB l 0 Γ).length = Γ.length := putB_len l 0 Γ
    unfold setC
    by_cases hij : i = j
    · subst hij
      rw [if_pos rfl]
      cases hg : Γ[i]? with
      | none =>
        rw [hg] at e0
        rw [e0]
        simp only [Option.map_none]
        exact e0
      | some s =>
        have hi : i < (putB l 0 Γ).length := by rw [hl]; exact (List.getElem?_eq_some_iff.mp hg).1
        rw [hg] at e0
        rw [e0]
        cases s with
        | none => cases hk : l.lookup i <;> simp only [Option.map_some, putS] <;> rw [e0, hk] <;> rfl
        | some s => cases s <;> cases hk : l.lookup i <;> simp only [Option.map_some, putS] <;> first | (rw [List.getElem?_set_self hi]) | (rw [e0, hk]; rfl)
    · rw [if_neg hij]
      split
      · rw [List.getElem?_set_ne hij, ej]
      · rw [List.getElem?_set_ne hij, ej]
      · exact ej
  apply List.ext_getElem?
  intro j
  rw [hget j, putB_get, Nat.zero_add, List.lookup_cons]
  by_cases hij : i = j
  · subst hij
    simp
  · have : (j == i) = false := by simp; omega
    rw [if_neg hij]
    simp only [this]
@[simp] theorem putS_own {d' : D} : putS (some d) (some (.own d')) = some (.own d) := rfl
@[simp] theorem putS_par {d' : D} : putS (some d) (some (.par d')) = some (.par d) := rfl
@[simp] theorem putS_none {x : Option Sl} : putS none x = x := by cases x <;> rfl
def R0.rs (r : R0) (as : List Ar) (Γ : Gm) : Rs Sl := match r with
  | .ok r ps => .ok r (putB (zipS as ps) 0 Γ)
  | .exc c fs ps => .exc c fs (putB (zipS as ps) 0 Γ)
  | .no => .no
@[simp] theorem rs_ok {as : List Ar} {ps : List D} : (R0.ok s ps).rs as Γ = .ok s (putB (zipS as ps) 0 Γ) := rfl
@[simp] theorem rs_exc {as : List Ar} {fs : List (Str × D)} {ps : List D} : (R0.exc c fs ps).rs as Γ = .exc c fs (putB (zipS as ps) 0 Γ) := rfl
def callR (F : Fn) (as : List Ar) (Γ : Gm) (o : Option (List Sl)) : Rs Sl := match o with
  | some sls => if (slots as).Nodup then (F sls).rs as Γ else .no
  | none => .no
@[simp] theorem callR_some {as : List Ar} {sls : List Sl} : callR F as Γ (some sls) = if (slots as).Nodup then (F sls).rs as Γ else .no := rfl
@[simp] theorem ev_callD {as : List Ar} : callD F as Γ = callR F as Γ (sRes Γ as) := by
  unfold callD callR
  cases sRes Γ as with
  | none => rfl
  | some sls =>
    dsimp only
    split
    · cases F sls <;> rfl
    · rfl
@[simp] theorem ev_call : dCall F ga Γ = (ga Γ).an fun as Γ1 => callD F as Γ1 := by unfold dCall; simp
@[simp] theorem ev_call1 : dCall1 F d ga Γ = (ga Γ).an fun as Γ1 => callD F (.dat d :: as) Γ1 := by unfold dCall1; simp
@[simp] theorem ev_arP {sls : List Sl} : arP n F sls = if sls.length = n then F sls else .no := rfl
@[simp] theorem ev_arD {sls : List Sl} {dds : List D} : arD n dds F sls = if sls.length + dds.length = n then F (sls ++ dds.map Sl.dat) else .no := rfl
def arSR (m : Nat) (F : Fn) (sls : List Sl) (o : Option (List D)) : R0 := match o with
  | some ds => if ds.length ≤ sizeLine then F (sls.take m ++ [.dat (.tup ds)]) else .no
  | none => .no
@[simp] theorem arSR_some {ds : List D} {sls : List Sl} (h : ds.length ≤ sizeLine) : arSR n F sls (some ds) = F (sls.take n ++ [.dat (.tup ds)]) := if_pos h
@[simp] theorem arSR_0 {sls : List Sl} : arSR n F sls (some []) = F (sls.take n ++ [.dat (.tup [])]) := rfl
@[simp] theorem arSR_c {x : D} {ds : List D} {sls : List Sl} (h : (x :: ds).length ≤ 1000000) : arSR n F sls (some (x :: ds)) = F (sls.take n ++ [.dat (.tup (x :: ds))]) := if_pos (len_size h)
@[simp] theorem ev_arS {sls : List Sl} : arS n F sls = if n ≤ sls.length then arSR n F sls (datsS (sls.drop n)) else .no := by
  unfold arS arSR
  split
  · cases datsS (sls.drop n) <;> rfl
  · rfl
@[simp] theorem datsS_nil : datsS [] = some [] := rfl
@[simp] theorem datsS_dat {as : List Sl} : datsS (.dat d :: as) = (datsS as).map (d :: ·) := rfl
@[simp] theorem datsS_map {ds : List D} : datsS (ds.map Sl.dat) = some ds := by
  induction ds with
  | nil => rfl
  | cons d ds ih => simp [ih]
@[simp] theorem datsS_mapf {α : Type} {h : α → D} {ds : List α} : datsS (ds.map (Sl.dat ∘ h)) = some (ds.map h) := by
  induction ds with
  | nil => rfl
  | cons d ds ih => simp [ih]
@[simp] theorem datsS_mapf' {α : Type} {h : α → D} {ds : List α} : datsS (ds.map fun x => Sl.dat (h x)) = some (ds.map h) := datsS_mapf
@[simp] theorem ev_meth {m : Str} : dMeth c m F fa ga Γ = (fa Γ).an fun o Γ1 => if isIns c m o.d = true then dCall1 F o.d ga Γ1 else .no := by
  unfold dMeth; simp only [ev_bind]; congr 1; funext o Γ1; split <;> rfl
def makR (r : R0) (Γ : Gm) : Rs Sl := match r with
  | .ok (.dat .non) [d] => .ok (.dat d) Γ
  | .exc k fs _ => .exc k fs Γ
  | _ => .no
@[simp] theorem makR_ok : makR (.ok (.dat .non) [d]) Γ = .ok (.dat d) Γ := rfl
@[simp] theorem makR_exc {fs : List (Str × D)} {ps : List D} : makR (.exc c fs ps) Γ = .exc c fs Γ := rfl
def makO (c : Str) (F : Fn) (o : Option (List D)) (Γ : Gm) : Rs Sl := match o with
  | some ds => makR (F (.par (.ins c []) :: ds.map Sl.dat)) Γ
  | none => .no
@[simp] theorem makO_some {ds : List D} : makO c F (some ds) Γ = makR (F (.par (.ins c []) :: ds.map Sl.dat)) Γ := rfl
@[simp] theorem ev_make : dMake c F ga Γ = (ga Γ).an fun as Γ1 => makO c F (dats as) Γ1 := by
  unfold dMake; simp only [ev_bind]; congr 1; funext as Γ1
  unfold makO makR
  cases dats as <;> rfl
@[simp] theorem ev_makeL : dMakeL i c F ga Γ = if isCls c Γ[i]? = true then dMake c F ga Γ else .no := rfl
@[simp] theorem isCls_c : isCls c (some (some (.dat (.cls c)))) = true := beq_self_eq_true c
@[simp] theorem ev_cm : dCm c F ga Γ = dCall1 F (.cls c) ga Γ := rfl
def makK (c : Str) (n nk : Nat) (is : List Nat) (F : Fn) (o : Option (List D)) (Γ : Gm) : Rs Sl := match o with
  | some zs => if zs.length = nk ∧ (permI is zs).length + 1 = n then makR (F (.par (.ins c []) :: (permI is zs).map Sl.dat)) Γ else .no
  | none => .no
@[simp] theorem makK_some {nk : Nat} {is : List Nat} {zs : List D} : makK c n nk is F (some zs) Γ = if zs.length = nk ∧ (permI is zs).length + 1 = n then makR (F (.par (.ins c []) :: (permI is zs).map Sl.dat)) Γ else .no := rfl
@[simp] theorem ev_makeK {nk : Nat} {is : List Nat} : dMakeK c n nk is F ga Γ = (ga Γ).an fun as Γ1 => makK c n nk is F (dats as) Γ1 := by
  unfold dMakeK; simp only [ev_bind]; congr 1; funext as Γ1
  unfold makK makR
  cases dats as <;> rfl
@[simp] theorem permI_nil {α : Type} {l : List α} : permI [] l = [] := rfl
def perm1 {α : Type} (o : Option α) (l : List α) : List α := match o with
  | some x => x :: l
  | none => l
@[simp] theorem perm1_some {α : Type} {x : α} {l : List α} : perm1 (some x) l = x :: l := rfl
@[simp] theorem permI_cons {α : Type} {l : List α} {is : List Nat} : permI (i :: is) l = perm1 l[i]? (permI is l) := by
  unfold permI perm1
  rw [List.filterMap_cons]
  cases l[i]? <;> rfl
def callK (F : Fn) (d : D) (n nk : Nat) (is : List Nat) (o : Option (List D)) (Γ : Gm) : Rs Sl := match o with
  | some zs => if zs.length = nk ∧ (permI is zs).length + 1 = n then callD F (.dat d :: (permI is zs).map Ar.dat) Γ else .no
  | none => .no
@[simp] theorem callK_some {nk : Nat} {is : List Nat} {zs : List D} : callK F d n nk is (some zs) Γ = if zs.length = nk ∧ (permI is zs).length + 1 = n then callD F (.dat d :: (permI is zs).map Ar.dat) Γ else .no := rfl
@[simp] theorem ev_callK {nk : Nat} {is : List Nat} : dCallK d n nk is F ga Γ = (ga Γ).an fun as Γ1 => callK F d n nk is (dats as) Γ1 := by
  unfold dCallK; simp only [ev_bind]; congr 1; funext as Γ1
  unfold callK
  cases dats as <;> rfl
@[simp] theorem ev_methK {m : Str} {nk : Nat} {is : List Nat} : dMethK c m n nk is F fa ga Γ = (fa Γ).an fun o Γ1 => if isIns c m o.d = true then dCallK o.d n nk is F ga Γ1 else .no := by
  unfold dMethK; simp only [ev_bind]; congr 1; funext o Γ1; split <;> rfl
@[simp] theorem ev_fld {cs : List Str} : dFld cs f fa Γ = (fa Γ).an fun x Γ1 => rO (fldD cs f x.d) Γ1 := by unfold dFld; simp
def propR (r : R0) (Γ : Gm) : Rs Sl := match r with
  | .ok r [] => .ok r Γ
  | _ => .no
@[simp] theorem propR_ok : propR (.ok s []) Γ = .ok s Γ := rfl
def isC (c : Str) : D → Bool
  | .ins c' _ => decide (c' = c)
  | _ => false
@[simp] theorem ev_prop : dProp c F fa Γ = (fa Γ).an fun o Γ1 => if isC c o.d = true then propR (F [.dat o.d]) Γ1 else .no := by
  unfold dProp; simp only [ev_bind]; congr 1; funext o Γ1
  cases o.d <;> simp [isC]
  split
  · unfold propR; rfl
  · rfl
@[simp] theorem ev_alt {k : Gm → Bool} : dAlt k fa fb Γ = if k Γ = true then fa Γ else fb Γ := rfl
def clsR (c : Str) (r : Rs Sl) : Bool := match r with
  | .ok x _ => isC c x.d
  | _ => false
@[simp] theorem clsR_ok : clsR c (.ok s Γ) = isC c s.d := rfl
@[simp] theorem ev_clsIs : clsIs c fa Γ = clsR c (fa Γ) := by
  unfold clsIs clsR isC
  cases fa Γ with
  | ok x g => dsimp only; cases x.d <;> rfl
  | exc c fs g => rfl
  | no => rfl
/-! held things -/
def heldR (o : Option (Option Sl)) : Option D := match o with
  | some (some (.own d)) => some d
  | some (some (.par d)) => some d
  | _ => none
@[simp] theorem heldR_own : heldR (some (some (.own d))) = some d := rfl
@[simp] theorem heldR_par : heldR (some (some (.par d))) = some d := rfl
@[simp] theorem ev_held : heldD Γ i = heldR Γ[i]? := rfl
def setR (o : Option (Option Sl)) (Γ : Gm) (i : Nat) (d : D) : Gm := match o with
  | some (some (.own _)) => Γ.set i (some (.own d))
  | some (some (.par _)) => Γ.set i (some (.par d))
  | _ => Γ
@[simp] theorem setR_own : setR (some (some (.own e))) Γ i d = Γ.set i (some (.own d)) := rfl
@[simp] theorem setR_par : setR (some (some (.par e))) Γ i d = Γ.set i (some (.par d)) := rfl
@[simp] theorem ev_setC : setC Γ i d = setR Γ[i]? Γ i d := rfl
def ixH (o : Option D) (y : D) : Option Sl := match o, y with
  | some (.lst ds), .int k => (L2.atI ds k).map Sl.dat
  | _, _ => none
@[simp] theorem ixH_lst {ds : List D} {k : Int} : ixH (some (.lst ds)) (.int k) = (L2.atI ds k).map Sl.dat := rfl
@[simp] theorem ev_ixS : dIxS i fb Γ = if (heldD Γ i).isSome = true then (fb Γ).an fun y Γ1 => rO (ixH (heldD Γ1 i) y.d) Γ1 else .no := by
  unfold dIxS; simp only [ev_bind, ev_opt]; try rfl
/-! statements -/
@[simp] theorem ev_next : dNext Γ = .nx Γ := rfl
@[simp] theorem ev_then {α : Type} {m : EM α} {k : α → SM} : dThen m k Γ = (m Γ).fl (fun a Γ1 => k a Γ1) := by unfold dThen Rs.fl; cases m Γ <;> rfl
def Fl.sq (r : Fl) (g : SM) : Fl := match r with
  | .nx Γ => g Γ
  | r => r
@[simp] theorem sq_nx {g : SM} : (Fl.nx Γ).sq g = g Γ := rfl
@[simp] theorem sq_rt {g : SM} : (Fl.rt s Γ).sq g = .rt s Γ := rfl
@[simp] theorem sq_exc {g : SM} {fs : List (Str × D)} : (Fl.exc c fs Γ).sq g = .exc c fs Γ := rfl
@[simp] theorem sq_bk {g : SM} : (Fl.bk Γ).sq g = .bk Γ := rfl
@[simp] theorem sq_ct {g : SM} : (Fl.ct Γ).sq g = .ct Γ := rfl
theorem sq_ite {g : SM} {p : Prop} [Decidable p] {x y : Fl} : (if p then x else y).sq g = if p then x.sq g else y.sq g := by split <;> rfl
@[simp] theorem ev_seq {g1 g2 : SM} : dSeq g1 g2 Γ = (g1 Γ).sq g2 := by unfold dSeq Fl.sq; cases g1 Γ <;> rfl
@[simp] theorem ev_expr : dExpr fa Γ = (fa Γ).fl fun _ Γ1 => .nx Γ1 := by unfold dExpr; simp
@[simp] theorem ev_retS : dRet fa Γ = (fa Γ).fl fun r Γ1 => .rt r Γ1 := by unfold dRet; simp
@[simp] theorem ev_retN : dRetN Γ = .rt (.dat .non) Γ := rfl
@[simp] theorem ev_set : dSet i fa Γ = (fa Γ).fl fun r Γ1 => .nx (Γ1.set i (some r)) := by unfold dSet; simp
def ifSR (r : Rs Bool) (g1 g2 : SM) : Fl := r.fl fun b Γ => if b = true then g1 Γ else g2 Γ
@[simp] theorem ifSR_t {g1 g2 : SM} : ifSR (.ok true Γ) g1 g2 = g1 Γ := rfl
@[simp] theorem ifSR_f {g1 g2 : SM} : ifSR (.ok false Γ) g1 g2 = g2 Γ := rfl
@[simp] theorem ifSR_x {g1 g2 : SM} {fs : List (Str × D)} : ifSR (.exc c fs Γ) g1 g2 = .exc c fs Γ := rfl
theorem ifSR_b {g1 g2 : SM} {b : Bool} : ifSR (.ok b Γ) g1 g2 = if b = true then g1 Γ else g2 Γ := rfl
@[simp] theorem ev_ifS {g1 g2 : SM} : dIfS ta g1 g2 Γ = ifSR (ta Γ) g1 g2 := by
  unfold dIfS ifSR; simp only [ev_then]; congr 1; funext b Γ1; split <;> rfl
def retR (o : Option (Option Sl)) (Γ : Gm) : Fl := match o with
  | some (some (.own d)) => .rt (.own d) Γ
  | some (some (.dat d)) => .rt (.dat d) Γ
  | _ => .no
@[simp] theorem retR_own : retR (some (some (.own d))) Γ = .rt (.own d) Γ := rfl
@[simp] theorem retR_dat : retR (some (some (.dat d))) Γ = .rt (.dat d) Γ := rfl
@[simp] theorem ev_retSl : dRetS i Γ = retR Γ[i]? Γ := rfl
@[simp] theorem ev_gD : gD i d Γ = some (Γ.set i (some (.dat d))) := rfl
@[simp] theorem ev_gnil : gDNil [] Γ = some Γ := rfl
@[simp] theorem ev_gcons {g1 : D → Gm → Option Gm} {gs : List D → Gm → Option Gm} {ds : List D} : gDCons g1 gs (d :: ds) Γ = (g1 d Γ).bind (gs ds) := rfl
@[simp] theorem ev_gtup {gs : List D → Gm → Option Gm} {ds : List D} : gDTup n gs (.tup ds) Γ = if ds.length = n then gs ds Γ else none := rfl
@[simp] theorem ev_glst {gs : List D → Gm → Option Gm} {ds : List D} : gDLst n gs (.lst ds) Γ = if ds.length = n then gs ds Γ else none := rfl
def asgR (o : Option Gm) : Fl := match o with
  | some Γ => .nx Γ
  | none => .no
@[simp] theorem asgR_some : asgR (some Γ) = .nx Γ := rfl
@[simp] theorem ev_asg {g1 : D → Gm → Option Gm} : dAsg g1 fa Γ = (fa Γ).fl fun v Γ1 => asgR (g1 v.d Γ1) := by
  unfold dAsg; simp only [ev_then]; congr 1
@[simp] theorem ev_raise {fs : List (Str × D)} : dRaise c fs Γ = .exc c fs Γ := rfl
@[simp] theorem ev_raise1 : dRaise1 c f fa Γ = (fa Γ).fl fun v Γ1 => .exc c [(f, v.d)] Γ1 := by unfold dRaise1; simp
@[simp] theorem ev_raise2 {f2 : Str} : dRaise2 c f f2 fa fb Γ = (fa Γ).fl fun v Γ1 => (fb Γ1).fl fun u Γ2 => .exc c [(f2, u.d), (f, v.d)] Γ2 := by unfold dRaise2; simp
def appR (o : Option D) (v : D) (Γ : Gm) (i : Nat) : Fl := match o with
  | some (.lst ds) => if ds.length < sizeLine then .nx (setC Γ i (.lst (ds ++ [v]))) else .no
  | _ => .no
@[simp] theorem appR_lst {ds : List D} {v : D} (h : ds.length < sizeLine) : appR (some (.lst ds)) v Γ i = .nx (setC Γ i (.lst (ds ++ [v]))) := if_pos h
@[simp] theorem appR_nil {v : D} : appR (some (.lst [])) v Γ i = .nx (setC Γ i (.lst [v])) := rfl
@[simp] theorem appR_c {x : D} {ds : List D} {v : D} (h : (x :: ds).length < 1000000) : appR (some (.lst (x :: ds))) v Γ i = .nx (setC Γ i (.lst (x :: ds ++ [v]))) := if_pos (Nat.lt_of_lt_of_le h (by rw [sizeLine_eq]; decide))
def isL : Option D → Bool
  | some (.lst _) => true
  | _ => false
@[simp] theorem isL_lst {ds : List D} : isL (some (.lst ds)) = true := rfl
@[simp] theorem ev_app : dApp i fa Γ = if isL (heldD Γ i) = true then (fa Γ).fl fun v Γ1 => appR (heldD Γ1 i) v.d Γ1 i else .no := by
  unfold dApp
  have h1 : (lstOf (heldD Γ i)).isSome = isL (heldD Γ i) := by
    cases heldD Γ i with
    | none => rfl
    | some d => cases d <;> rfl
  rw [h1]
  simp only [ev_then]
  split
  · congr 1; funext v Γ1
    unfold appR
    cases heldD Γ1 i with
    | none => rfl
    | some d => cases d <;> rfl
  · rfl
def sixR (o : Option D) (y v : D) (Γ : Gm) (i : Nat) : Fl := match o, y with
  | some (.lst ds), .int k => (match ixN ds.length k with | some j => .nx (setC Γ i (.lst (ds.set j v))) | none => .no)
  | _, _ => .no
theorem sixR_lst {ds : List D} {k : Int} {v : D} {j : Nat} (h : ixN ds.length k = some j) : sixR (some (.lst ds)) (.int k) v Γ i = .nx (setC Γ i (.lst (ds.set j v))) := by unfold sixR; simp only [h]
@[simp] theorem ev_setIx : dSetIx i fa fb Γ = (fa Γ).fl fun v Γ1 => if (heldD Γ1 i).isSome = true then (fb Γ1).fl fun y Γ2 => sixR (heldD Γ2 i) y.d v.d Γ2 i else .no := by
  unfold dSetIx
  simp only [ev_then]
  congr 1; funext v Γ1
  split
  · congr 1; funext y Γ2
    unfold sixR
    cases heldD Γ2 i with
    | none => rfl
    | some d => cases d <;> cases y.d <;> rfl
  · rfl
def sfR (cs : List Str) (o : Option D) (f : Str) (v : D) (Γ : Gm) (i : Nat) : Fl := match o with
  | some (.ins c fs) => if cs.contains c = true ∧ fs.length < 1000 then .nx (setC Γ i (.ins c (putD f v fs))) else .no
  | _ => .no
@[simp] theorem sfR_ins {cs : List Str} {fs : List (Str × D)} {v : D} : sfR cs (some (.ins c fs)) f v Γ i = if cs.contains c = true ∧ fs.length < 1000 then .nx (setC Γ i (.ins c (putD f v fs))) else .no := rfl
@[simp] theorem ev_setF {cs : List Str} : dSetF cs i f fa Γ = (fa Γ).fl fun v Γ1 => sfR cs (heldD Γ1 i) f v.d Γ1 i := by
  unfold dSetF; simp only [ev_then]; congr 1
@[simp] theorem putD_nil {v : D} : putD f v [] = [(f, v)] := rfl
@[simp] theorem putD_cons {g1 : Str} {u v : D} {fs : List (Str × D)} : putD f v ((g1, u) :: fs) = if g1 = f then (g1, v) :: fs else (g1, u) :: putD f v fs := rfl
def supR (r : Rs Sl) : Fl := match r with
  | .ok _ Γ => .nx Γ
  | _ => .no
@[simp] theorem supR_ok : supR (.ok s Γ) = .nx Γ := rfl
def isCo (c : Str) : Option D → Bool
  | some d => isC c d
  | none => false
@[simp] theorem isCo_some : isCo c (some d) = isC c d := rfl
@[simp] theorem ev_sup : dSup c n F ga Γ = if isCo c (heldD Γ 0) = true then (ga Γ).fl fun as Γ1 => if as.length + 1 = n then supR (callD F (.slot 0 :: as) Γ1) else .no else .no := by
  unfold dSup
  cases heldD Γ 0 with
  | none => rfl
  | some d =>
    cases d <;> simp [isCo, isC]
    congr 1
/-! bodies -/
def pR (sls : List Sl) (f : Fl) : R0 := match f with
  | .rt r Γ => (match pars sls Γ with | some ps => .ok r ps | none => .no)
  | .nx Γ => (match pars sls Γ with | some ps => .ok (.dat .non) ps | none => .no)
  | .exc c fs Γ => (match pars sls Γ with | some ps => .exc c fs ps | none => .no)
  | _ => .no
def pO (o : Option (List D)) (k : List D → R0) : R0 := match o with
  | some ps => k ps
  | none => .no
@[simp] theorem pO_some {ps : List D} {k : List D → R0} : pO (some ps) k = k ps := rfl
@[simp] theorem pR_rt {sls : List Sl} : pR sls (.rt s Γ) = pO (pars sls Γ) fun ps => .ok s ps := rfl
@[simp] theorem pR_nx {sls : List Sl} : pR sls (.nx Γ) = pO (pars sls Γ) fun ps => .ok (.dat .non) ps := rfl
@[simp] theorem pR_exc {sls : List Sl} {fs : List (Str × D)} : pR sls (.exc c fs Γ) = pO (pars sls Γ) fun ps => .exc c fs ps := rfl
@[simp] theorem pars_nil : pars [] Γ = some [] := by cases Γ <;> rfl
@[simp] theorem pars_par {as : List Sl} : pars (.par d :: as) (some (.par e) :: Γ) = (pars as Γ).map (e :: ·) := rfl
@[simp] theorem pars_dat {as : List Sl} {x : Option Sl} : pars (.dat d :: as) (x :: Γ) = pars as Γ := by cases x <;> rfl
theorem pR_ite {sls : List Sl} {p : Prop} [Decidable p] {x y : Fl} : pR sls (if p then x else y) = if p then pR sls x else pR sls y := by split <;> rfl
def frame (n : Nat) (sls : List Sl) : Gm := sls.map some ++ List.replicate (n - sls.length) none
theorem ev_body {g1 : SM} {sls : List Sl} : bodyF n g1 sls = pR sls (g1 (frame n sls)) := by unfold bodyF pR frame; rfl
/-! loops and comprehensions -/
def iL : D → Option (List D)
  | .lst ds => some ds
  | _ => none
def iT : D → Option (List D)
  | .tup ds => some ds
  | _ => none
def iS : D → Option (List D)
  | .str z => some (z.cps.toList.map fun c => .str ⟨#[c]⟩)
  | _ => none
@[simp] theorem iL_lst {ds : List D} : iL (.lst ds) = some ds := rfl
@[simp] theorem iT_tup {ds : List D} : iT (.tup ds) = some ds := rfl
@[simp] theorem iS_str {z : Str} : iS (.str z) = some (z.cps.toList.map fun c => .str ⟨#[c]⟩) := rfl
@[simp] theorem ev_itL : dItL fa Γ = (fa Γ).an fun x Γ1 => rO (iL x.d) Γ1 := by unfold dItL; simp only [ev_bind, ev_opt]; try rfl
@[simp] theorem ev_itT : dItT fa Γ = (fa Γ).an fun x Γ1 => rO (iT x.d) Γ1 := by unfold dItT; simp only [ev_bind, ev_opt]; try rfl
@[simp] theorem ev_itA {g : List D → Option (List D)} : dItA g ga Γ = (ga Γ).an fun as Γ1 => rO (bindO (dats as) g) Γ1 := by unfold dItA bindO; simp
@[simp] theorem ev_itS : dItS fa Γ = (fa Γ).an fun x Γ1 => rO (iS x.d) Γ1 := by unfold dItS; simp only [ev_bind, ev_opt]; try rfl
@[simp] theorem ev_for {it : EM (List D)} {gt : D → Gm → Option Gm} {body : SM} : dFor it gt body Γ = (it Γ).fl fun ds Γ1 => forL gt body ds Γ1 := by unfold dFor; simp
def lcE (r : Rs (List D)) : Rs Sl := match r with
  | .ok acc Γ' => .ok (.own (.lst acc)) Γ'
  | _ => .no
@[simp] theorem lcE_ok {acc : List D} : lcE (.ok acc Γ) = .ok (.own (.lst acc)) Γ := rfl
@[simp] theorem ev_lc {it : EM (List D)} {gt : D → Gm → Option Gm} {vs : List Nat} : dLc it gt ta fb vs Γ = (it Γ).an fun ds Γ1 => lcE (lcL gt ta fb vs ds [] Γ1) := by
  unfold dLc; simp only [ev_bind]; congr 1
@[simp] theorem forL_nil {gt : D → Gm → Option Gm} {body : SM} : forL gt body [] Γ = .nx Γ := rfl
def loopR (r : Fl) (k : Gm → Fl) : Fl := match r with
  | .nx Γ2 => k Γ2
  | .ct Γ2 => k Γ2
  | .bk Γ2 => .nx Γ2
  | r => r
@[simp] theorem loopR_nx {k : Gm → Fl} : loopR (.nx Γ) k = k Γ := rfl
@[simp] theorem loopR_ct {k : Gm → Fl} : loopR (.ct Γ) k = k Γ := rfl
@[simp] theorem loopR_bk {k : Gm → Fl} : loopR (.bk Γ) k = .nx Γ := rfl
@[simp] theorem loopR_rt {k : Gm → Fl} : loopR (.rt s Γ) k = .rt s Γ := rfl
@[simp] theorem loopR_exc {k : Gm → Fl} {fs : List (Str × D)} : loopR (.exc c fs Γ) k = .exc c fs Γ := rfl
def forO (o : Option Gm) (body : SM) (k : Gm → Fl) : Fl := match o with
  | some Γ1 => loopR (body Γ1) k
  | none => .no
@[simp] theorem forO_some {body : SM} {k : Gm → Fl} : forO (some Γ) body k = loopR (body Γ) k := rfl
theorem forL_cons {gt : D → Gm → Option Gm} {body : SM} {ds : List D} : forL gt body (d :: ds) Γ = forO (gt d Γ) body (forL gt body ds) := by
  conv => lhs; unfold forL
  unfold forO loopR
  cases gt d Γ with
  | none => rfl
  | some Γ1 => first | rfl | (dsimp only; cases body Γ1 <;> rfl)
@[simp] theorem lcL_nil {gt : D → Gm → Option Gm} {vs : List Nat} {acc : List D} : lcL gt ta fb vs [] acc Γ = .ok acc Γ := rfl
def lcB (r : Rs Sl) (ln : Nat) (acc : List D) (Γ0 : Gm) (vs : List Nat) (k : List D → Gm → Rs (List D)) : Rs (List D) := match r with
  | .ok y Γ3 => if acc.length < sizeLine ∧ Γ3.length = ln then k (acc ++ [y.d]) (wipeG (fromPar Γ0 Γ3) vs) else .no
  | _ => .no
def lcA (r : Rs Bool) (te : EM Sl) (ln : Nat) (acc : List D) (Γ0 : Gm) (vs : List Nat) (k : List D → Gm → Rs (List D)) : Rs (List D) := match r with
  | .ok true Γ2 => lcB (te Γ2) ln acc Γ0 vs k
  | .ok false Γ2 => if Γ2.length = ln then k acc (wipeG (fromPar Γ0 Γ2) vs) else .no
  | _ => .no
def lcO (o : Option Gm) (tt : EM Bool) (te : EM Sl) (ln : Nat) (acc : List D) (Γ0 : Gm) (vs : List Nat) (k : List D → Gm → Rs (List D)) : Rs (List D) := match o with
  | some Γ1 => lcA (tt Γ1) te ln acc Γ0 vs k
  | none => .no
theorem lcL_cons {gt : D → Gm → Option Gm} {vs : List Nat} {ds acc : List D} : lcL gt ta fb vs (d :: ds) acc Γ = lcO (gt d (toPar (wipeG Γ vs))) ta fb Γ.length acc (wipeG Γ vs) vs (lcL gt ta fb vs ds) := by
  conv => lhs; unfold lcL
  unfold lcO lcA lcB
  cases gt d (toPar (wipeG Γ vs)) with
  | none => rfl
  | some Γ1 => rfl
@[simp] theorem lcO_some {ln : Nat} {acc : List D} {Γ0 : Gm} {vs : List Nat} {k : List D → Gm → Rs (List D)} : lcO (some Γ) ta fb ln acc Γ0 vs k = lcA (ta Γ) fb ln acc Γ0 vs k := rfl
@[simp] theorem lcA_t {ln : Nat} {acc : List D} {Γ0 : Gm} {vs : List Nat} {k : List D → Gm → Rs (List D)} : lcA (.ok true Γ) fb ln acc Γ0 vs k = lcB (fb Γ) ln acc Γ0 vs k := rfl
@[simp] theorem lcA_f {ln : Nat} {acc : List D} {Γ0 : Gm} {vs : List Nat} {k : List D → Gm → Rs (List D)} : lcA (.ok false Γ) fb ln acc Γ0 vs k = if Γ.length = ln then k acc (wipeG (fromPar Γ0 Γ) vs) else .no := rfl
theorem lcA_b {b : Bool} {ln : Nat} {acc : List D} {Γ0 : Gm} {vs : List Nat} {k : List D → Gm → Rs (List D)} : lcA (.ok b Γ) fb ln acc Γ0 vs k = if b = true then lcB (fb Γ) ln acc Γ0 vs k else if Γ.length = ln then k acc (wipeG (fromPar Γ0 Γ) vs) else .no := by cases b <;> rfl
@[simp] theorem lcB_ok {ln : Nat} {acc : List D} {Γ0 : Gm} {vs : List Nat} {k : List D → Gm → Rs (List D)} (h : acc.length < 1000000) (hl : Γ.length = ln) : lcB (.ok s Γ) ln acc Γ0 vs k = k (acc ++ [s.d]) (wipeG (fromPar Γ0 Γ) vs) := if_pos ⟨Nat.lt_of_lt_of_le h (by rw [sizeLine_eq]; decide), hl⟩
@[simp] theorem toPar_nil : toPar [] = [] := rfl
@[simp] theorem toPar_cons {x : Option Sl} : toPar (x :: Γ) = toP x :: toPar Γ := rfl
@[simp] theorem toP_own : toP (some (.own d)) = some (.par d) := rfl
@[simp] theorem toP_par : toP (some (.par d)) = some (.par d) := rfl
@[simp] theorem toP_dat : toP (some (.dat d)) = some (.dat d) := rfl
@[simp] theorem toP_none : toP none = none := rfl
@[simp] theorem frP_toP {x : Option Sl} : frP x (toP x) = x := by
  cases x with
  | none => rfl
  | some s => cases s <;> rfl
@[simp] theorem fromPar_nil : fromPar [] [] = [] := rfl
@[simp] theorem fromPar_cons {x y : Option Sl} : fromPar (x :: Γ) (y :: Γ1) = frP x y :: fromPar Γ Γ1 := rfl
@[simp] theorem frP_ownpar : frP (some (.own d)) (some (.par e)) = some (.own e) := rfl
@[simp] theorem frP_parpar : frP (some (.par d)) (some (.par e)) = some (.par e) := rfl
@[simp] theorem frP_dat {x : Option Sl} : frP x (some (.dat e)) = some (.dat e) := by
  cases x with
  | none => rfl
  | some s => cases s <;> rfl
@[simp] theorem frP_none {x : Option Sl} : frP x none = none := by
  cases x with
  | none => rfl
  | some s => cases s <;> rfl
@[simp] theorem wipeG_nil : wipeG Γ [] = Γ := rfl
@[simp] theorem wipeG_cons {v : Nat} {vs : List Nat} : wipeG Γ (v :: vs) = (wipeG Γ vs).set v none := rfl
/-! own == and str -/
def tyOk (cs : List Str) (ts : List Ck) (e : D) : Bool := match tyIn cs e with
  | some t => ts.contains t
  | none => false
def eqB (neg : Bool) (r : R0) : Option Sl := match r with
  | .ok (.dat (.bl b)) [] => some (.dat (.bl (neg ^^ b)))
  | _ => none
@[simp] theorem eqB_ok {neg b : Bool} : eqB neg (.ok (.dat (.bl b)) []) = some (.dat (.bl (neg ^^ b))) := rfl
theorem eqO_ins {cs : List Str} {ts : List Ck} {T : EqT} {neg : Bool} {fs : List (Str × D)} (h : T.lookup c = some F) : eqO cs ts T neg (.ins c fs) e = if tyOk cs ts e = true then eqB neg (F [.dat (.ins c fs), .dat e]) else none := by
  unfold eqO tyOk
  dsimp only
  rw [h]
  cases tyIn cs e <;> rfl
def strB (r : R0) : Option Sl := match r with
  | .ok (.dat (.str z)) [] => some (.dat (.str z))
  | _ => none
@[simp] theorem strB_ok {z : Str} : strB (.ok (.dat (.str z)) []) = some (.dat (.str z)) := rfl
theorem strO_ins {T : EqT} {fs : List (Str × D)} (h : T.lookup c = some (arP 1 F)) : strO T [.ins c fs] = strB (F [.dat (.ins c fs)]) := by
  unfold strO
  dsimp only
  rw [h]
  rfl
@[simp] theorem strO_str {T : EqT} {z : Str} : strO T [.str z] = some (.dat (.str z)) := rfl
/-- the text of a number -/
def num (i : Int) : Str := Str.ofString (toString i)
theorem strO_int {T : EqT} {i : Int} (h : i.natAbs.log2 < 1920) : strO T [.int i] = some (.dat (.str (num i))) := if_pos h
theorem log_small {i : Int} (h0 : -1000000000000000000 ≤ i) (h1 : i ≤ 1000000000000000000) : i.natAbs.log2 < 1920 := by
  by_cases h : i.natAbs = 0
  · rw [h]; decide
  · rw [Nat.log2_lt h]
    exact Nat.lt_of_lt_of_le (show i.natAbs < 1152921504606846976 by omega) (by decide +kernel)
@[simp] theorem strO_small {T : EqT} {i : Int} (h0 : -1000000000000000000 ≤ i) (h1 : i ≤ 1000000000000000000) : strO T [.int i] = some (.dat (.str (num i))) := strO_int (log_small h0 h1)
theorem num_len {i : Int} {k : Nat} (hk : 0 < k) (h : i.natAbs < 10 ^ k) : (num i).length ≤ k + 1 := by
  unfold num
  rw [PySem.ofString_length]
  exact int_text_length_le10 hk h
theorem num_len9 {i : Int} (h0 : -1000000000 < i) (h1 : i < 1000000000) : (num i).length ≤ 10 := num_len (k := 9) (by decide) (by
  have : (10 : Nat) ^ 9 = 1000000000 := by decide
  omega)
@[simp] theorem eqO_str {us : List Str} {tt : List Ck} {T : EqT} {neg : Bool} (y z : Str) : eqO us tt T neg (.str y) (.str z) = some (.dat (.bl (neg ^^ decide (y = z)))) := rfl
@[simp] theorem fmt_str {T : EqT} {z : Str} (h : z.length ≤ sizeLine) : fmtD T (.str z) = some (.dat (.str z)) := if_pos h
@[simp] theorem fmt_int {T : EqT} {i : Int} (h0 : -1000000000000000000 ≤ i) (h1 : i ≤ 1000000000000000000) : fmtD T (.int i) = some (.dat (.str (num i))) := if_pos (log_small h0 h1)
/-! operators -/
@[simp] theorem o_add {i j : Int} : opAdd (.int i) (.int j) = some (.dat (.int (i + j))) := rfl
@[simp] theorem o_sub {i j : Int} : opSub (.int i) (.int j) = some (.dat (.int (i - j))) := rfl
@[simp] theorem o_lt {i j : Int} : opLt (.int i) (.int j) = some (.dat (.bl (decide (i < j)))) := rfl
@[simp] theorem o_le {i j : Int} : opLe (.int i) (.int j) = some (.dat (.bl (decide (i ≤ j)))) := rfl
@[simp] theorem o_gt {i j : Int} : opGt (.int i) (.int j) = some (.dat (.bl (decide (j < i)))) := rfl
@[simp] theorem o_ge {i j : Int} : opGe (.int i) (.int j) = some (.dat (.bl (decide (j ≤ i)))) := rfl
@[simp] theorem o_cmp {p : Int → Int → Bool} {i j : Int} : opCmp p (.int i) (.int j) = some (.dat (.bl (p i j))) := rfl
@[simp] theorem o_neg {i : Int} : opNeg (.int i) = some (.dat (.int (-i))) := rfl
@[simp] theorem o_mod {i j : Int} (h : 0 < j) : opMod (.int i) (.int j) = some (.dat (.int (i % j))) := if_pos h
@[simp] theorem o_fdiv {i j : Int} (h : 0 < j) (h2 : j < 18446744073709551616) : opFdiv (.int i) (.int j) = some (.dat (.int (i / j))) := if_pos ⟨h, h2⟩
@[simp] theorem o_mulr {i j : Int} (h : -18446744073709551616 < j) (h2 : j < 18446744073709551616) : opMulA (.int i) (.int j) = some (.dat (.int (i * j))) := if_pos (Or.inr ⟨h, h2⟩)
@[simp] theorem o_mull {i j : Int} (h : -18446744073709551616 < i) (h2 : i < 18446744073709551616) : opMulA (.int i) (.int j) = some (.dat (.int (i * j))) := if_pos (Or.inl ⟨h, h2⟩)
@[simp] theorem o_mulL {xs : List D} {k : Int} (h : -9223372036854775808 ≤ k) (h1 : k < 9223372036854775808) (h2 : xs.length * k.toNat ≤ sizeLine) : opMulA (.lst xs) (.int k) = some (.own (.lst (List.replicate k.toNat xs).flatten)) := if_pos ⟨h, h1, h2⟩
@[simp] theorem o_mulT {x : D} {k : Int} (h : 0 ≤ k) (h1 : k ≤ 100000) : opMulA (.tup [x]) (.int k) = some (.dat (.tup (List.replicate k.toNat [x]).flatten)) := if_pos ⟨rfl, h, h1⟩
@[simp] theorem o_addS {y z : Str} (h : y.length + z.length ≤ sizeLine) : opAdd (.str y) (.str z) = some (.dat (.str (y ++ z))) := if_pos h
@[simp] theorem o_addT {xs ys : List D} (h : xs.length + ys.length ≤ sizeLine) : opAdd (.tup xs) (.tup ys) = some (.dat (.tup (xs ++ ys))) := if_pos h
@[simp] theorem o_addL {xs ys : List D} (h : xs.length + ys.length ≤ sizeLine) : opAdd (.lst xs) (.lst ys) = some (.own (.lst (xs ++ ys))) := if_pos h
@[simp] theorem ix_lst {xs : List D} {k : Int} : ixD (.lst xs) (.int k) = (L2.atI xs k).map Sl.dat := rfl
@[simp] theorem ix_tup {xs : List D} {k : Int} : ixD (.tup xs) (.int k) = (L2.atI xs k).map Sl.dat := rfl
@[simp] theorem t_non : truth .non = some false := rfl
@[simp] theorem t_bl {b : Bool} : truth (.bl b) = some b := rfl
@[simp] theorem t_int {i : Int} : truth (.int i) = some (i != 0) := rfl
@[simp] theorem t_tup {xs : List D} : truth (.tup xs) = some (!xs.isEmpty) := rfl
@[simp] theorem t_lst {xs : List D} : truth (.lst xs) = some (!xs.isEmpty) := rfl
@[simp] theorem len_lst {xs : List D} : lenD [.lst xs] = some (.dat (.int xs.length)) := rfl
@[simp] theorem len_tup {xs : List D} : lenD [.tup xs] = some (.dat (.int xs.length)) := rfl
@[simp] theorem c_int {i : Int} : intD [.int i] = some (.dat (.int i)) := rfl
@[simp] theorem c_intb {b : Bool} : intD [.bl b] = some (.dat (.int (if b then 1 else 0))) := rfl
@[simp] theorem sl_lst {xs : List D} {lo hi : Option Int} : slD (.lst xs) lo hi = some (.own (.lst (cutD xs lo hi))) := rfl
@[simp] theorem sl_tup {xs : List D} {lo hi : Option Int} : slD (.tup xs) lo hi = some (.dat (.tup (Dl.cutD xs lo hi))) := rfl
@[simp] theorem ev_onone : dONone Γ = .ok none Γ := rfl
@[simp] theorem ev_osome : dOSome fa Γ = (fa Γ).an fun x Γ1 => rO (intOf x.d) Γ1 := by unfold dOSome; simp
@[simp] theorem intOf_int {i : Int} : intOf (.int i) = some (some i) := rfl
@[simp] theorem ev_sl {fl fh : EM (Option Int)} : dSl fa fl fh Γ = (fa Γ).an fun x Γ1 => (fl Γ1).an fun l Γ2 => (fh Γ2).an fun h Γ3 => rO (slD x.d l h) Γ3 := by unfold dSl; simp
@[simp] theorem ev_tupR : dTupR fa Γ = (fa Γ).an fun x Γ1 => rO (tupR x.d) Γ1 := by unfold dTupR; simp
@[simp] theorem tupR_int {n : Int} (h : 0 ≤ n) (h2 : n ≤ 16777216) : tupR (.int n) = some (.dat (.tup (rngD 0 n.toNat))) := if_pos ⟨h, h2⟩
@[simp] theorem rng1_int {j : Int} (h : -4611686018427387904 ≤ j) (h2 : j < 4611686018427387904) : rng1 [.int j] = some (rngD 0 j.toNat) := if_pos ⟨h, h2⟩
@[simp] theorem rng2_int {i j : Int} (h : -4611686018427387904 ≤ i) (h2 : i < 4611686018427387904) (h3 : -4611686018427387904 ≤ j) (h4 : j < 4611686018427387904) : rng2 [.int i, .int j] = some (rngD i (j - i).toNat) := if_pos ⟨h, h2, h3, h4⟩
@[simp] theorem zip_lst {xs ys : List D} : zip2 [.lst xs, .lst ys] = some ((xs.zip ys).map fun p => .tup [p.1, p.2]) := rfl
@[simp] theorem zip_tup {xs ys : List D} : zip2 [.tup xs, .tup ys] = some ((xs.zip ys).map fun p => .tup [p.1, p.2]) := rfl
@[simp] theorem enum_lst {xs : List D} : enum1 [.lst xs] = some (enumD 0 xs) := rfl
@[simp] theorem ev_bm {ty : D → Bool} {g : D → List D → Option Sl} : dBm ty g fa ga Γ = (fa Γ).an fun o Γ1 => if ty o.d = true then (ga Γ1).an fun as Γ2 => rO (bindO (dats as) (g o.d)) Γ2 else .no := by
  unfold bindO
  unfold dBm; simp only [ev_bind]; congr 1; funext o Γ1; split
  · simp
  · rfl
@[simp] theorem isStr_s {z : Str} : isStr (.str z) = true := rfl
@[simp] theorem isLst_l {xs : List D} : isLst (.lst xs) = true := rfl
@[simp] theorem ev_fmt {T : EqT} : dFmt T fa Γ = (fa Γ).an fun x Γ1 => rO (fmtD T x.d) Γ1 := by unfold dFmt; simp
@[simp] theorem join_nil {acc : Str} : joinF [] acc Γ = .ok (.dat (.str acc)) Γ := rfl
def joR (d : D) (fs : List (EM Sl)) (acc : Str) (Γ : Gm) : Rs Sl := match d with
  | .str y => if (acc ++ y).length ≤ sizeLine then joinF fs (acc ++ y) Γ else .no
  | _ => .no
@[simp] theorem joR_str {y : Str} {fs : List (EM Sl)} {acc : Str} (h : (acc ++ y).length ≤ sizeLine) : joR (.str y) fs acc Γ = joinF fs (acc ++ y) Γ := if_pos h
@[simp] theorem join_cons {fs : List (EM Sl)} {acc : Str} : joinF (fa :: fs) acc Γ = (fa Γ).an fun x Γ1 => joR x.d fs acc Γ1 := by
  conv => lhs; unfold joinF
  simp only [ev_bind]; congr 1
@[simp] theorem list_lst {xs : List D} : listD [.lst xs] = some (.own (.lst xs)) := by with_unfolding_all rfl
@[simp] theorem list_tup {xs : List D} : listD [.tup xs] = some (.own (.lst xs)) := by with_unfolding_all rfl
@[simp] theorem tuple_lst {xs : List D} : tupleD [.lst xs] = some (.dat (.tup xs)) := by with_unfolding_all rfl
@[simp] theorem tuple_tup {xs : List D} : tupleD [.tup xs] = some (.dat (.tup xs)) := by with_unfolding_all rfl
end
end Dl
end
section
set_option maxHeartbeats 4000000
set_option autoImplicit false
/-! repr: what can be shown. -/
namespace Dl
open PySem PySem.Spec PyProof.Rows L2 Tx He
/-- can be shown, of depth n, of bulk m at most -/
def Rp (n m : Nat) (d : D) : Prop := ∃ e, pyR d = some e ∧ e.showable = true ∧ e.leavesShort 128 = true ∧ e.bulk ≤ m ∧ e.depth ≤ n
def Rps (n m : Nat) (ds : List D) : Prop := ∃ es, pyRs ds = some es ∧ PyData.showableAll es = true ∧ PyData.leavesShortAll 128 es = true ∧ PyData.bulkAll es ≤ m ∧ PyData.depthAll es ≤ n
/-- the text -/
def shw (d : D) : Str := match pyR d with
  | some e => e.shown
  | none => Str.empty
theorem repr_eq {n m : Nat} {d : D} (h : Rp n m d) (hn : n ≤ 60) (hm : m ≤ 100000) : reprD [d] = some (.dat (.str (shw d))) := by
  obtain ⟨e, h1, h2, h3, h4, h5⟩ := h
  have hl := PyData.shown_le_bulk 128 (by decide) e h3
  have h6 : e.shown.length ≤ sizeLine := by
    rw [sizeLine_eq]
    have : (128 + 2) * e.bulk ≤ (128 + 2) * 100000 := Nat.mul_le_mul_left _ (Nat.le_trans h4 hm)
    omega
  have h7 : e.depth ≤ 60 := by omega
  simp [reprD, shw, h1, h2, h6, h7]
theorem rp_non : Rp 0 0 .non := ⟨.none, rfl, rfl, rfl, Nat.le_refl _, by decide⟩
theorem rp_bl {b : Bool} : Rp 0 0 (.bl b) := ⟨.bool b, rfl, rfl, rfl, Nat.le_refl _, by simp [PyData.depth]⟩
theorem rp_int {i : Int} (h : i.natAbs < 10 ^ 100) : Rp 0 0 (.int i) := by
  refine ⟨.int i, rfl, ?_, ?_, Nat.le_refl _, by simp [PyData.depth]⟩
  · simp only [PyData.showable, decide_eq_true_eq]
    by_cases h0 : i.natAbs = 0
    · rw [h0]; decide
    · rw [Nat.log2_lt h0]
      exact Nat.lt_of_lt_of_le h (by decide +kernel)
  · have h1 := int_text_length_le10 (a := i) (k := 100) (by decide) h
    have e : (Str.ofString (toString i)).length = (toString i).length := PySem.ofString_length _
    refine decide_eq_true (show (Str.ofString (toString i)).length ≤ 128 from ?_)
    rw [e]
    omega
theorem rp_small {i : Int} (h1 : -1000000000000000000 ≤ i) (h2 : i ≤ 1000000000000000000) : Rp 0 0 (.int i) := rp_int (Nat.lt_of_le_of_lt (show i.natAbs ≤ 1000000000000000000 by omega) (by decide +kernel))
theorem rp_str {z : Str} {n : Nat} (h : ∀ c ∈ z.cps.toList, c < 4294967296) (hl : z.cps.size ≤ n) : Rp 0 n (.str z) := by
  refine ⟨.str z, rfl, rfl, ?_, hl, by simp [PyData.depth]⟩
  simp only [PyData.leavesShort, List.all_eq_true, decide_eq_true_eq]
  exact h
theorem rps_nil : Rps 0 0 [] := ⟨[], rfl, rfl, rfl, Nat.le_refl _, by simp [PyData.depthAll]⟩
theorem rps_cons {n n2 m m2 : Nat} {d : D} {ds : List D} (h : Rp n m d) (h2 : Rps n2 m2 ds) : Rps (max n n2) (m + 1 + m2) (d :: ds) := by
  obtain ⟨e, a1, a2, a3, a4, a5⟩ := h
  obtain ⟨es, b1, b2, b3, b4, b5⟩ := h2
  refine ⟨e :: es, by simp [pyRs, a1, b1], by simp [PyData.showableAll, a2, b2], by simp [PyData.leavesShortAll, a3, b3], ?_, ?_⟩
  · simp only [PyData.bulkAll]; omega
  · simp only [PyData.depthAll]; omega
theorem Rp.mono {n m n2 m2 : Nat} {d : D} (h : Rp n m d) (a : n ≤ n2) (b : m ≤ m2) : Rp n2 m2 d := let ⟨e, a1, a2, a3, a4, a5⟩ := h; ⟨e, a1, a2, a3, Nat.le_trans a4 b, Nat.le_trans a5 a⟩
theorem Rps.mono {n m n2 m2 : Nat} {d : List D} (h : Rps n m d) (a : n ≤ n2) (b : m ≤ m2) : Rps n2 m2 d := let ⟨e, a1, a2, a3, a4, a5⟩ := h; ⟨e, a1, a2, a3, Nat.le_trans a4 b, Nat.le_trans a5 a⟩
theorem rps_all {n m : Nat} : ∀ {ds : List D}, (∀ d ∈ ds, Rp n m d) → Rps n (ds.length * (m + 1)) ds
  | [], _ => rps_nil.mono (Nat.zero_le _) (by simp)
  | d :: ds, h => (rps_cons (h d (List.mem_cons_self ..)) (rps_all fun x hx => h x (List.mem_cons_of_mem _ hx))).mono (by omega) (by simp only [List.length_cons, Nat.add_mul, Nat.one_mul]; omega)
theorem rp_tup {n m : Nat} {ds : List D} (h : Rps n m ds) : Rp (n + 1) m (.tup ds) := by
  obtain ⟨es, b1, b2, b3, b4, b5⟩ := h
  exact ⟨.tuple es, by simp [pyR, b1], b2, b3, b4, by simp only [PyData.depth]; omega⟩
theorem rp_lst {n m : Nat} {ds : List D} (h : Rps n m ds) : Rp (n + 1) m (.lst ds) := by
  obtain ⟨es, b1, b2, b3, b4, b5⟩ := h
  exact ⟨.list es, by simp [pyR, b1], b2, b3, b4, by simp only [PyData.depth]; omega⟩
/-- rows of small numbers -/
def Small (ns : List Int) : Prop := ∀ i ∈ ns, -1000000000000000000 ≤ i ∧ i ≤ 1000000000000000000
theorem rps_ints {ns : List Int} (h : Small ns) : Rps 0 ns.length (ns.map .int) := by
  have := rps_all (n := 0) (m := 0) (ds := ns.map .int) fun d hd => by
    obtain ⟨i, hi, rfl⟩ := List.mem_map.mp hd
    exact rp_small (h i hi).1 (h i hi).2
  simpa using this
theorem rp_tints {ns : List Int} (h : Small ns) (hl : ns.length ≤ 100000) : reprD [.tup (ns.map .int)] = some (.dat (.str (shw (.tup (ns.map .int))))) := repr_eq (rp_tup (rps_ints h)) (by decide) hl
theorem rp_lints {ns : List Int} (h : Small ns) (hl : ns.length ≤ 100000) : reprD [.lst (ns.map .int)] = some (.dat (.str (shw (.lst (ns.map .int))))) := repr_eq (rp_lst (rps_ints h)) (by decide) hl
end Dl
end
section
set_option maxHeartbeats 4000000
set_option autoImplicit false
/-! The end of a law: from data to the row. -/
namespace Dl
variable [Tabl]
open PySem PySem.Spec PyProof.Rows L2 Tx He
theorem law_end {K : PySem.W.Frag} {F : Fn} (h : ∀ xs : List Int, xs.length ≤ 63 → F [.dat (.scr (xs.map .int))] = .ok (.dat (.bl true)) []) (H : Hp) (a : Addr) (ns : List Int) (hl : ns.length ≤ 63) (hT : TabsH H) (hS : SqL K H a (ns.map V.int)) :
    spE K F [.ref a] H (fun v _ => v = .bl true) fun _ _ _ => False := by
  have r : Rep K (hid H []) (.ref a) (.scr (ns.map .int)) := by
    refine .scr ?_ Reps.ints
    have off : ∀ {o : HO}, H a = some o → NT o → hid H [] a = some o := fun {o} e n => hid_at (by simp) e n
    rcases hS with (q | ⟨o, q⟩) | q
    · exact .inl (.inl (off q fun _ z => by cases z))
    · exact .inl (.inr ⟨o, off q fun _ z => by cases z⟩)
    · exact .inr q
  refine ⟨⟨[], fun _ => none, H⟩, [.dat (.scr (ns.map .int))], rfl, ?_, ?_, ?_⟩
  · exact {
      dat := fun i d hi => by
        cases i with
        | zero =>
          simp at hi
          subst hi
          exact ⟨_, rfl, r⟩
        | succ i => simp at hi
      own := fun i d hi => by
        cases i with
        | zero => simp at hi
        | succ i => simp at hi
      par := fun i d hi => by
        cases i with
        | zero => simp at hi
        | succ i => simp at hi
      sub := fun a ha => ha
      dom := fun a ha => by simp at ha
      frm := fun a o h _ _ => h
      len := rfl
      bok := ⟨fun i j p h => by simp at h, fun i p h => by simp at h, fun p ha => by simp at ha⟩
      tab := hT }
  · intro i d hi
    cases i with
    | zero => simp at hi
    | succ i => simp at hi
  · rw [h ns hl]
    intro v H' _ po
    obtain ⟨_, rv⟩ := po
    cases rv
    rfl
theorem cut_all {xs : List D} (h : xs.length ≤ 63) : Dl.cutD xs none (some 63) = xs := by
  have e : HT.sIx xs.length xs.length (some 63) = xs.length := by
    simp [HT.sIx, Int.toNat]
    omega
  have e0 : HT.sIx xs.length 0 none = 0 := rfl
  simp [Dl.cutD, e, e0]
@[simp] theorem sl_scr {xs : List D} {lo hi : Option Int} : slD (.scr xs) lo hi = some (.own (.lst (Dl.cutD xs lo hi))) := rfl
end Dl
end
section
set_option maxHeartbeats 4000000
set_option autoImplicit false
/-! Own operators of classes: operations on values that may raise. -/
namespace Dl
variable [Tabl]
open PySem PySem.Spec PyProof.Rows L2 Tx He
open Hx (OwnM OwnI BinT BinC)
open Evl (Ex)
/-- the call of an own def somewhere below an operation -/
theorem run_own {X : Cx} {k : Nat} {f : Addr} {Fd : Fn} {E : XK} {pins : List (Addr × Obj)} {σ : L2.St} {H : Hp} {s : Shared} {A : Around} {us : List Value} {vs : List V} {Q : VK} (F : FnE X.prog X.w X.K X.mg X.base k f Fd) (room : Room k A) (fr : A.frames = X.A.frames)
    (pas : Passes (L2.CX X.prog X.w) X E) (I : Inv X pins σ H s) (r : Vals vs us) (h : spE X.K Fd vs H Q E) : wpAny (model X.prog X.w) A (call (.ref f) us) (EP X pins σ Q) X.xe s := by
  have e0 : Env0 X.prog X.w X.K X.mg X.base A X.stack s H := by
    have e := I.env0
    exact ⟨by rw [fr]; exact e.frames, e.mod, e.bs, e.bsz, e.funs, e.frf, e.hok, e.bare⟩
  refine wpAny_call (codeAny_mono (F A X.stack s H us vs Q E room e0 r h) fun r s' hq => ?_)
  cases r with
  | error e => exact pas pins σ H s e s' I hq
  | ok fl =>
    cases fl with
    | ret w => exact I.after hq
    | next => exact False.elim hq
    | brk => exact False.elim hq
    | cont => exact False.elim hq
/-! ### operations on values, that may raise -/
def rW1 (K : PySem.W.Frag) (E : XK) (g : D → EM Sl) : V → Hp → VK → Prop := fun x H Q => ∃ B M Γ σ d, SR K B M Γ σ H ∧ Rep K (hid H M) x d ∧ match g d Γ with
  | .ok r Γ' => ∀ v H' M', Val K B M Γ' σ H M' H' v r → Q v H'
  | .exc c fs Γ' => Fail K (wx E) B σ c fs Γ'
  | .no => False
def rW2 (K : PySem.W.Frag) (E : XK) (g : D → D → EM Sl) : R2 := fun x y H Q => ∃ B M Γ σ d e, SR K B M Γ σ H ∧ Rep K (hid H M) x d ∧ Rep K (hid H M) y e ∧ match g d e Γ with
  | .ok r Γ' => ∀ v H' M', Val K B M Γ' σ H M' H' v r → Q v H'
  | .exc c fs Γ' => Fail K (wx E) B σ c fs Γ'
  | .no => False
def rWL (K : PySem.W.Frag) (E : XK) (g : List D → EM Sl) : List V → Hp → VK → Prop := fun xs H Q => ∃ B M Γ σ ds, SR K B M Γ σ H ∧ Reps K (hid H M) xs ds ∧ match g ds Γ with
  | .ok r Γ' => ∀ v H' M', Val K B M Γ' σ H M' H' v r → Q v H'
  | .exc c fs Γ' => Fail K (wx E) B σ c fs Γ'
  | .no => False
abbrev UnW (X : Cx) (E : XK) (f : Value → Sem Value) (g : D → EM Sl) : Prop := UnR X f (rW1 X.K E g)
abbrev OpW (X : Cx) (E : XK) (f : Value → Value → Sem Value) (g : D → D → EM Sl) : Prop := OpR X f (rW2 X.K E g)
abbrev ClW (X : Cx) (E : XK) (f : Value) (g : List D → EM Sl) : Prop := CallR X f (rWL X.K E g)
abbrev IxW (X : Cx) (E : XK) (g : D → D → EM Sl) : Prop := IxR X (rW2 X.K E g)
def dW1 (g : D → EM Sl) (fa : EM Sl) : EM Sl := fa.bind fun x => g x.d
def dW2 (g : D → D → EM Sl) (fa fb : EM Sl) : EM Sl := fa.bind fun x => fb.bind fun y => g x.d y.d
def dsE (g : List D → EM Sl) (o : Option (List D)) : EM Sl := fun Γ => match o with
  | some ds => g ds Γ
  | none => .no
def dWL (g : List D → EM Sl) (ga : EM (List Ar)) : EM Sl := ga.bind fun as => dsE g (dats as)
section
variable {K : PySem.W.Frag} {E : XK} {σ : L2.St} {H : Hp} {Q : VK} {fa fb : EM Sl} {gx : EM (List Ar)}
theorem q_w1 {g : D → EM Sl} (h : tD K (wx E) (dW1 g fa) σ H Q) : tUn (rW1 K E g) (tD K (wx E) fa) σ H Q := by
  obtain ⟨B, M, Γ, S, h⟩ := h
  refine tD_use S ?_
  unfold dW1 EM.bind at h
  cases ha : fa Γ with
  | no => rw [ha] at h; exact h
  | exc c fs g => rw [ha] at h; exact h
  | ok x Γ1 =>
    rw [ha] at h
    intro v H1 M1 S1 e1 r1
    refine ⟨B, M1, Γ1, σ, x.d, S1, r1, ?_⟩
    dsimp only at h
    cases hg : g x.d Γ1 with
    | no => rw [hg] at h; exact h
    | exc c fs g => rw [hg] at h; exact h
    | ok r Γ2 => rw [hg] at h; exact fun v2 H2 M2 q => h v2 H2 M2 (q.of_ex e1)
theorem q_w2 {g : D → D → EM Sl} (h : tD K (wx E) (dW2 g fa fb) σ H Q) : tOp (rW2 K E g) (tD K (wx E) fa) (tD K (wx E) fb) σ H Q := by
  obtain ⟨B, M, Γ, S, h⟩ := h
  refine tD_use S ?_
  unfold dW2 EM.bind at h
  cases ha : fa Γ with
  | no => rw [ha] at h; exact h
  | exc c fs g => rw [ha] at h; exact h
  | ok x Γ1 =>
    rw [ha] at h
    intro v H1 M1 S1 e1 r1
    refine tD_use S1 ?_
    simp only at h
    cases hb : fb Γ1 with
    | no => rw [hb] at h; exact h
    | exc c fs g => rw [hb] at h; exact h
    | ok y Γ2 =>
      rw [hb] at h
      intro u H2 M2 S2 e2 r2
      refine ⟨B, M2, Γ2, σ, x.d, y.d, S2, r1.mono e2, r2, ?_⟩
      dsimp only at h
      cases hg : g x.d y.d Γ2 with
      | no => rw [hg] at h; exact h
      | exc c fs g => rw [hg] at h; exact h
      | ok r Γ3 => rw [hg] at h; exact fun v2 H3 M3 q => h v2 H3 M3 (q.of_ex (e1.trans e2))
theorem q_wl {g : List D → EM Sl} (h : tD K (wx E) (dWL g gx) σ H Q) : tCB (rWL K E g) (tDA K (wx E) gx) σ H Q := by
  obtain ⟨B, M, Γ, S, h⟩ := h
  refine ⟨B, M, Γ, S, ?_⟩
  unfold dWL EM.bind at h
  cases ha : gx Γ with
  | no => rw [ha] at h; exact h
  | exc c fs g => rw [ha] at h; exact h
  | ok as Γ1 =>
    rw [ha] at h
    intro vs H1 M1 S1 e1 av
    dsimp only at h
    unfold dsE at h
    cases hd : dats as with
    | none => rw [hd] at h; exact h.elim
    | some ds =>
      rw [hd] at h
      dsimp only at h
      refine ⟨B, M1, Γ1, σ, ds, S1, av.dats hd, ?_⟩
      cases hg : g ds Γ1 with
      | no => rw [hg] at h; exact h
      | exc c fs g => rw [hg] at h; exact h
      | ok r Γ2 => rw [hg] at h; exact fun v2 H2 M2 q => h v2 H2 M2 (q.of_ex e1)
end
section
variable {X : Cx} {E : XK} {a b e : Expr} {es : List Expr} {fa fb : EM Sl} {gx : EM (List Ar)} {pos p : Pos} {x : Str}
theorem de_opW {op : Operator} {g : D → D → EM Sl} (ho : OpW X E (binaryOp op) g) (ha : PE X a (tD X.K (wx E) fa)) (hb : PE X b (tD X.K (wx E) fb)) : PE X (.BinOp a op b pos) (tD X.K (wx E) (dW2 g fa fb)) := PE.imp (pe_op ho ha hb) fun _ _ _ h => q_w2 h
theorem de_cmpW {op : CmpOp} {g : D → D → EM Sl} (ho : OpW X E (compareOp op) g) (ha : PE X a (tD X.K (wx E) fa)) (hb : PE X b (tD X.K (wx E) fb)) (hm : behindInMarks op b = false) : PE X (.Compare a [op] [b] pos) (tD X.K (wx E) (dW2 g fa fb)) := PE.imp (pe_cmpR ho ha hb hm) fun _ _ _ h => q_w2 h
theorem dt_cmpW {op : CmpOp} {g : D → D → EM Sl} (ho : OpW X E (compareOp op) g) (ha : PE X a (tD X.K (wx E) fa)) (hb : PE X b (tD X.K (wx E) fb)) (hm : behindInMarks op b = false) : PT X (.Compare a [op] [b] pos) (tDT X.K (wx E) (dTb (dW2 g fa fb))) :=
  PT.imp (pt_cmpR ho ha hb hm) fun _ _ _ h => q_testT (fun _ q => q_w2 q) h
theorem de_unW {op : UnaryOp} {g : D → EM Sl} (ho : UnW X E (unaryOp op) g) (ha : PE X a (tD X.K (wx E) fa)) : PE X (.UnaryOp op a pos) (tD X.K (wx E) (dW1 g fa)) := PE.imp (pe_un ho ha) fun _ _ _ h => q_w1 h
theorem de_ixW {g : D → D → EM Sl} (hr : IxW X E g) (ha : PE X a (tD X.K (wx E) fa)) (hb : PE X b (tD X.K (wx E) fb)) (hs : PlainIx b) : PE X (.Subscript a b pos) (tD X.K (wx E) (dW2 g fa fb)) := PE.imp (pe_ix hr ha hb hs) fun _ _ _ h => q_w2 h
theorem de_callBW {g : List D → EM Sl} {id : String} (hc : ClW X E (.builtin id) g) (hg : Gl X x) (hm : X.mg x = none) (hv : bootBuiltins x = some (.builtin id)) (ha : PA X (e :: es) (tDA X.K (wx E) gx)) (hn : x ≠ "__name__" := by decide) (hdb : (x == ("__debug__" : Str)) = false := by decide)
    (he : starEach (e :: es) X.env = (false, eval e X.env) :: starEach es X.env := by rfl) (hpl : (backTo pos (starEach es X.env)).any (·.1) = false := by rfl) : PE X (.Call (.Name x p) (e :: es) [] pos) (tD X.K (wx E) (dWL g gx)) := PE.imp (pe_callB hc hg hm hv ha hn hdb he hpl) fun _ _ _ h => q_wl h
end
/-! ### plain ones, and choices -/
section
variable {X : Cx} {E : XK}
theorem New.valS {K : PySem.W.Frag} {B : Bs} {M : List Addr} {Γ : Gm} {σ : L2.St} {H H' : Hp} {v : V} {r : Sl} (S : SR K B M Γ σ H) (n : New K M H H' v r) : Val K B M Γ σ H M H' v r := n.val S (Evl.Ex.refl _)
theorem ow_plain {f : Value → Value → Sem Value} {g : D → D → Option Sl} (h : OpD X f g) : OpW X E f (fun d e => EM.opt (g d e)) := by
  intro pins s σ H x y v u Q I rx ry ⟨B, M, Γ, σ', d, e, S, r1, r2, q⟩
  refine h pins s σ H x y v u Q I rx ry ?_
  unfold EM.opt at q
  dsimp only at q
  cases hg : g d e with
  | none => rw [hg] at q; exact q.elim
  | some r =>
    rw [hg] at q
    exact ⟨M, d, e, r, S.dm, r1, r2, hg, fun v H' n => q v H' M (n.valS S)⟩
theorem ow_or {f : Value → Value → Sem Value} {g1 g2 : D → D → EM Sl} {p : D → D → Bool} (h1 : OpW X E f g1) (h2 : OpW X E f g2) : OpW X E f (fun d e => if p d e = true then g1 d e else g2 d e) := by
  intro pins s σ H x y v u Q I rx ry ⟨B, M, Γ, σ', d, e, S, r1, r2, q⟩
  dsimp only at q
  by_cases hp : p d e = true
  · rw [if_pos hp] at q
    exact h1 pins s σ H x y v u Q I rx ry ⟨B, M, Γ, σ', d, e, S, r1, r2, q⟩
  · rw [if_neg hp] at q
    exact h2 pins s σ H x y v u Q I rx ry ⟨B, M, Γ, σ', d, e, S, r1, r2, q⟩
theorem uw_plain {f : Value → Sem Value} {g : D → Option Sl} (h : UnD X f g) : UnW X E f (fun d => EM.opt (g d)) := by
  intro pins s σ H x v Q I rx ⟨B, M, Γ, σ', d, S, r1, q⟩
  refine h pins s σ H x v Q I rx ?_
  unfold EM.opt at q
  dsimp only at q
  cases hg : g d with
  | none => rw [hg] at q; exact q.elim
  | some r =>
    rw [hg] at q
    exact ⟨M, d, r, S.dm, r1, hg, fun v H' n => q v H' M (n.valS S)⟩
theorem uw_or {f : Value → Sem Value} {g1 g2 : D → EM Sl} {p : D → Bool} (h1 : UnW X E f g1) (h2 : UnW X E f g2) : UnW X E f (fun d => if p d = true then g1 d else g2 d) := by
  intro pins s σ H x v Q I rx ⟨B, M, Γ, σ', d, S, r1, q⟩
  dsimp only at q
  by_cases hp : p d = true
  · rw [if_pos hp] at q
    exact h1 pins s σ H x v Q I rx ⟨B, M, Γ, σ', d, S, r1, q⟩
  · rw [if_neg hp] at q
    exact h2 pins s σ H x v Q I rx ⟨B, M, Γ, σ', d, S, r1, q⟩
theorem cw_plain {f : Value} {g : List D → Option Sl} (h : ClD X f g) : ClW X E f (fun ds => EM.opt (g ds)) := by
  intro pins s σ H xs us Q I rx ⟨B, M, Γ, σ', ds, S, r1, q⟩
  refine h pins s σ H xs us Q I rx ?_
  unfold EM.opt at q
  dsimp only at q
  cases hg : g ds with
  | none => rw [hg] at q; exact q.elim
  | some r =>
    rw [hg] at q
    exact ⟨M, ds, r, S.dm, r1, hg, fun v H' n => q v H' M (n.valS S)⟩
theorem cw_or {f : Value} {g1 g2 : List D → EM Sl} {p : List D → Bool} (h1 : ClW X E f g1) (h2 : ClW X E f g2) : ClW X E f (fun d => if p d = true then g1 d else g2 d) := by
  intro pins s σ H x v Q I rx ⟨B, M, Γ, σ', d, S, r1, q⟩
  dsimp only at q
  by_cases hp : p d = true
  · rw [if_pos hp] at q
    exact h1 pins s σ H x v Q I rx ⟨B, M, Γ, σ', d, S, r1, q⟩
  · rw [if_neg hp] at q
    exact h2 pins s σ H x v Q I rx ⟨B, M, Γ, σ', d, S, r1, q⟩
end
/-! ### own ones -/
/-! the readings' names -/
def oCmp (cs : List Str) (ts : List Ck) (c : Str) (F : Fn) : D → D → EM Sl := fun d e => if isC c d = true ∧ tyOk cs ts e = true then callD F [.dat d, .dat e] else fun _ => .no
/-- what an own def is called with -/
theorem own_use {K : PySem.W.Frag} {E : XK} {B : Bs} {M : List Addr} {Γ : Gm} {σ : L2.St} {H : Hp} {Q : VK} {F : Fn} {vs : List V} {ds : List D} (S : SR K B M Γ σ H) (r : Reps K (hid H M) vs ds) (h : match callD F (ds.map Ar.dat) Γ with
  | .ok r Γ' => ∀ v H' M', Val K B M Γ' σ H M' H' v r → Q v H'
  | .exc c fs Γ' => Fail K (wx E) B σ c fs Γ'
  | .no => False) : spE K F vs H Q E := spE_use S (argv_dats r) h
theorem rep_ins {K : PySem.W.Frag} {H : Hp} {M : List Addr} {x : V} {d : D} {c : Str} (r : Rep K (hid H M) x d) (h : isC c d = true) : ∃ a dx fs, x = .ref a ∧ H a = some (.ins (He.ga K c) dx fs) := by
  cases r with
  | ins ha rf =>
    have : _ = c := of_decide_eq_true h
    subst this
    exact ⟨_, _, _, rfl, (hid_of ha).2⟩
  | _ => exact absurd h (by simp [isC])
section
variable {X : Cx} {E : XK} {k : Nat} {c : Str} {f : Addr} {F : Fn}
theorem notNI {pins : List (Addr × Obj)} {σ : L2.St} {Q : VK} {v : Value} {s : Shared} (h : EP X pins σ Q v s) : PySem.W.CmpBack (EP X pins σ Q) v s := by
  obtain ⟨x, H', I, r, q⟩ := h
  have n : v ≠ .notImplemented := fun z => by
    subst z
    cases x <;> first | (cases r; done) | (obtain ⟨_, r⟩ := r; cases r; done) | (exact absurd r (by intro z; cases z))
  unfold PySem.W.CmpBack
  split
  · exact absurd rfl n
  · exact ⟨x, H', I, r, q⟩
/-- <, <=, >, >=, ==, != by an own def -/
theorem ow_cmp {op : CmpOp} {cs : List Str} {ts : List Ck} (hop : ∀ v u, compareOp op v u = richCompare op v u) (m : OwnM X.K (ga X.K c) (cmpInfo op).2.1 f) (Fp : FnE X.prog X.w X.K X.mg X.base k f F) (room : Room k X.A) (tk : Takes X (wx E)) (hc : InsOk X.K cs) (hn : ∀ t ∈ ts, PySem.W.notFirst X.K (ga X.K c) (ckV X.K t) = true) :
    OpW X E (compareOp op) (oCmp cs ts c F) := by
  intro pins s σ H x y v u Q I rx ry ⟨B, M, Γ, σ', d, e, S, r1, r2, q⟩
  unfold oCmp at q
  by_cases hp : isC c d = true ∧ tyOk cs ts e = true
  · rw [if_pos hp] at q
    obtain ⟨a, dx, fs, rfl, ha⟩ := rep_ins r1 hp.1
    cases rx
    have ht := hp.2
    unfold tyOk at ht
    cases hty : tyIn cs e with
    | none => rw [hty] at ht; cases ht
    | some t =>
      rw [hty] at ht
      have ty := tyX_of hc hid_ex r2 hty
      obtain ⟨mA, J, _⟩ := ins_get I.hok ha
      obtain ⟨od, J, _⟩ := J.look
      obtain ⟨m', hF⟩ := I.fr
      obtain ⟨PP, kx, pp, _⟩ := kit_of I ry ty
      rw [hop]
      refine PySem.W.cmp_K (op := op) (tb := ckV X.K t) room.units0 hF I.ok.mod.kin J (kx.ty _ _ I.kIn pp) (hn t (List.contains_iff_mem.mp ht)) m.at_ m.fn ?_
      exact wpAny_mono (run_own (vs := [.ref a, y]) Fp room rfl (pass_of tk) I (.cons rfl (.cons ry .nil)) (own_use (ds := [d, e]) S (.cons r1 (.cons r2 .nil)) q)) (fun r s' h => notNI h) fun _ _ z => z
  · rw [if_neg hp] at q
    exact q.elim
end
end Dl
end
section
set_option maxHeartbeats 4000000
set_option autoImplicit false
/-! Own binary operators, own unary ones, len, items, calls, in, truth. -/
namespace Dl
variable [Tabl]
open PySem PySem.Spec PyProof.Rows L2 Tx He
open Hx (OwnM OwnI BinT BinC)
open Evl (Ex)
/-- a op b by the own method of a's class, b of a built-in type -/
theorem own_binT {prog : Program} {w : World} {A : Around} {E : Value → Shared → Prop} {s : Shared} {K : PySem.W.Frag} {x C L f : Addr} {h₀ : Heap} {m : Str → Option Value} {ox : Obj} {od : Option Obj} {op : Operator} {T sy nm : String} {b : Value} {fo ro rc : Option Value} {Q : Value → Shared → Prop}
    (hi : op.info = (sy, nm)) (F : Fr h₀ L s.heap m) (X₀ : K.In h₀) (I : PySem.W.InstAt s.heap x ox C od) (hb : PySem.W.Looks (model prog w) s.heap (typeOf b) (.type T)) (hc : PySem.W.selfFirst K C = true)
    (hs : PySem.W.findIn K (.ref C) (PySem.dunder nm) = some (some (.ref f))) (hf : PySem.W.isFn K (.ref f) = true) (hr : PySem.W.findIn K (.ref C) (dunderR nm) = some rc) (hp : rc = none ∨ ∃ g : Addr, rc = some (.ref g))
    (h1 : PySem.W.findIn K (.type T) (PySem.dunder nm) = some fo) (h2 : PySem.W.findIn K (.type T) (dunderR nm) = some ro) (hsub : PySem.W.subIn K (.type T) (.ref C) = some false)
    (h : wpAny (model prog w) A (call (.ref f) [.ref x, b]) (PySem.W.CmpBack Q) E s) : wpAny (model prog w) A (binaryOp op (.ref x) b) Q E s := by
  have X := X₀.keeps F.keep
  have one := PySem.W.ksp_try X I hs hf h
  have ⟨cd, rest, hcd, hm⟩ := PySem.W.ksp_first hc
  rcases s with ⟨hp0, g0, d0, t0, o0⟩
  have a1 : PySem.W.Looks (model prog w) hp0 (typeOf (.ref x)) (.ref C) := I.type
  have a2 : PySem.W.Looks (model prog w) hp0 (typeOf b) (.type T) := hb
  have a3 := PySem.W.fills_K (M := model prog w) (nm := nm) X hcd hm hs
  have a4 := PySem.W.ksp_fillsT (M := model prog w) X h1 h2
  have a5 := PySem.W.looks_subIn (M := model prog w) X hsub
  have a6 := PySem.W.ksp_inPy (M := model prog w) X hs hr hp
  have a7 : PySem.W.Looks (model prog w) hp0 (numberSlotInPython (.type T) nm) false := PySem.W.Looks.of_pure rfl
  have a8 := PySem.W.looks_findIn (M := model prog w) X h2
  have ne : (Value.ref C == Value.type T) = false := by cases q : (Value.ref C == Value.type T) <;> first | rfl | exact absurd (beq_iff_eq.mp q) (fun z => nomatch z)
  generalize ((fo.isSome && !isSeqSlot fo) || (ro.isSome && !isSeqSlot ro)) = rt at a4
  have main : wpAny (model prog w) A (binaryOp1 nm (.ref x) b) (fun r s' => ∃ v, r = some v ∧ Q v s') E ⟨hp0, g0, d0, t0, o0⟩ := by
    unfold binaryOp1
    refine wpAny_bind (a1.at (wpAny_bind (a2.at (wpAny_bind (a3.at ?_)))))
    simp only [ne, Bool.false_eq_true, if_false]
    cases rt <;> (ksp_lk; refine wpAny_mono one (fun r s' hr' => ?_) (fun _ _ e => e); obtain ⟨v, rfl, hq⟩ := hr'; ksp_lk; exact ⟨_, rfl, hq⟩)
  simp only [binaryOp, hi]
  refine wpAny_holding (wpAny_bind (wpAny_mono main (fun r s' ⟨v, e, q⟩ => ?_) fun _ _ z => z))
  subst e
  exact wpAny_pure q
/-- the built-in types of data -/
def tyB : D → Option String
  | .non => some "NoneType"
  | .bl _ => some "bool"
  | .int _ => some "int"
  | .str _ => some "str"
  | .tup _ => some "tuple"
  | .lst _ => some "list"
  | .dct _ => some "dict"
  | _ => none
theorem tyB_in {cs : List Str} {d : D} {t : String} (h : tyB d = some t) : tyIn cs d = some (.b t) := by
  cases d <;> cases h <;> rfl
def oBinS (c : Str) (F : Fn) : D → D → EM Sl := fun d e => if isC c d = true ∧ isC c e = true then callD F [.dat d, .dat e] else fun _ => .no
def oBinT (c : Str) (bts : List String) (F : Fn) : D → D → EM Sl := fun d e => if isC c d = true ∧ ((tyB e).any fun t => bts.contains t) = true then callD F [.dat d, .dat e] else fun _ => .no
def oUn (c : Str) (F : Fn) : D → EM Sl := fun d => if isC c d = true then callD F [.dat d] else fun _ => .no
section
variable {X : Cx} {E : XK} {k : Nat} {c : Str} {f : Addr} {F : Fn}
/-- x op y, y of the same class -/
theorem ow_binS {op : Operator} {sy nm : String} (hi : op.info = (sy, nm)) (hk : Hx.InsK X.K (ga X.K c)) (bc : BinC X.K (ga X.K c) nm) (m : OwnM X.K (ga X.K c) (PySem.dunder nm) f) (Fp : FnE X.prog X.w X.K X.mg X.base k f F) (room : Room k X.A) (tk : Takes X (wx E)) :
    OpW X E (binaryOp op) (oBinS c F) := by
  intro pins s σ H x y v u Q I rx ry ⟨B, M, Γ, σ', d, e, S, r1, r2, q⟩
  unfold oBinS at q
  by_cases hp : isC c d = true ∧ isC c e = true
  · rw [if_pos hp] at q
    obtain ⟨a, dx, fs, rfl, ha⟩ := rep_ins r1 hp.1
    obtain ⟨b, dy, gs, rfl, hb⟩ := rep_ins r2 hp.2
    cases rx
    cases ry
    obtain ⟨mA, J, _⟩ := ins_get I.hok ha
    obtain ⟨od, J, _⟩ := J.look
    obtain ⟨m', hF⟩ := I.fr
    obtain ⟨PP, kx, pp, _⟩ := kit_of (x := .ref b) I rfl (hk.ty hb)
    refine PySem.W.binop_K hF I.ok.mod.kin J (kx.ty _ _ I.kIn pp) bc.first (by rw [hi]; exact m.at_) m.fn ?_
    exact wpAny_mono (run_own (vs := [.ref a, .ref b]) Fp room rfl (pass_of tk) I (.cons rfl (.cons rfl .nil)) (own_use (ds := [d, e]) S (.cons r1 (.cons r2 .nil)) q)) (fun r s' h => notNI h) fun _ _ z => z
  · rw [if_neg hp] at q
    exact q.elim
/-- x op y, y of a built-in type -/
theorem ow_binT {op : Operator} {sy nm : String} {bts : List String} (hi : op.info = (sy, nm)) (bt : ∀ T ∈ bts, BinT X.K (ga X.K c) nm T) (bc : BinC X.K (ga X.K c) nm) (m : OwnM X.K (ga X.K c) (PySem.dunder nm) f) (Fp : FnE X.prog X.w X.K X.mg X.base k f F) (room : Room k X.A) (tk : Takes X (wx E)) :
    OpW X E (binaryOp op) (oBinT c bts F) := by
  intro pins s σ H x y v u Q I rx ry ⟨B, M, Γ, σ', d, e, S, r1, r2, q⟩
  unfold oBinT at q
  by_cases hp : isC c d = true ∧ ((tyB e).any fun t => bts.contains t) = true
  · rw [if_pos hp] at q
    obtain ⟨a, dx, fs, rfl, ha⟩ := rep_ins r1 hp.1
    cases rx
    obtain ⟨h1, h2⟩ := hp
    cases hty : tyB e with
    | none => rw [hty] at h2; cases h2
    | some t =>
      rw [hty] at h2
      have hm : t ∈ bts := List.contains_iff_mem.mp h2
      have ty := tyX_of (cs := []) (fun _ h => nomatch h) hid_ex r2 (tyB_in hty)
      obtain ⟨mA, J, _⟩ := ins_get I.hok ha
      obtain ⟨od, J, _⟩ := J.look
      obtain ⟨m', hF⟩ := I.fr
      obtain ⟨PP, kx, pp, _⟩ := kit_of I ry ty
      obtain ⟨⟨fo, e1⟩, ⟨ro, e2⟩, e3⟩ := bt t hm
      obtain ⟨rc, e4, e5⟩ := bc.r
      refine own_binT hi hF I.ok.mod.kin J (kx.ty _ _ I.kIn pp) bc.first m.at_ m.fn e4 e5 e1 e2 e3 ?_
      exact wpAny_mono (run_own (vs := [.ref a, y]) Fp room rfl (pass_of tk) I (.cons rfl (.cons ry .nil)) (own_use (ds := [d, e]) S (.cons r1 (.cons r2 .nil)) q)) (fun r s' h => notNI h) fun _ _ z => z
  · rw [if_neg hp] at q
    exact q.elim
/-- -x, ~x -/
theorem ow_neg (m : OwnM X.K (ga X.K c) "__neg__" f) (Fp : FnE X.prog X.w X.K X.mg X.base k f F) (room : Room k X.A) (tk : Takes X (wx E)) : UnW X E (unaryOp .USub) (oUn c F) := by
  intro pins s σ H x v Q I rx ⟨B, M, Γ, σ', d, S, r1, q⟩
  unfold oUn at q
  by_cases hp : isC c d = true
  · rw [if_pos hp] at q
    obtain ⟨a, dx, fs, rfl, ha⟩ := rep_ins r1 hp
    cases rx
    obtain ⟨mA, J, _⟩ := ins_get I.hok ha
    obtain ⟨od, J, _⟩ := J.look
    obtain ⟨m', hF⟩ := I.fr
    exact PySem.W.ksp_neg hF I.ok.mod.kin J m.at_ m.fn (run_own (vs := [.ref a]) Fp room rfl (pass_of tk) I (.cons rfl .nil) (own_use (ds := [d]) S (.cons r1 .nil) q))
  · rw [if_neg hp] at q
    exact q.elim
theorem ow_inv (m : OwnM X.K (ga X.K c) "__invert__" f) (Fp : FnE X.prog X.w X.K X.mg X.base k f F) (room : Room k X.A) (tk : Takes X (wx E)) : UnW X E (unaryOp .Invert) (oUn c F) := by
  intro pins s σ H x v Q I rx ⟨B, M, Γ, σ', d, S, r1, q⟩
  unfold oUn at q
  by_cases hp : isC c d = true
  · rw [if_pos hp] at q
    obtain ⟨a, dx, fs, rfl, ha⟩ := rep_ins r1 hp
    cases rx
    obtain ⟨mA, J, _⟩ := ins_get I.hok ha
    obtain ⟨od, J, _⟩ := J.look
    obtain ⟨m', hF⟩ := I.fr
    exact PySem.W.ksp_inv hF I.ok.mod.kin J m.at_ m.fn (run_own (vs := [.ref a]) Fp room rfl (pass_of tk) I (.cons rfl .nil) (own_use (ds := [d]) S (.cons r1 .nil) q))
  · rw [if_neg hp] at q
    exact q.elim
/-- the result of an own len -/
def lenB (f : EM Sl) : EM Sl := f.bind fun x => EM.opt (match x.d with
  | .int n => @ite _ (0 ≤ n ∧ n < 9223372036854775808) (@instDecidableAnd _ _ _ (ltD _ _)) (some (.dat (.int n))) none
  | _ => none)
theorem spE_post {K : PySem.W.Frag} {F : Fn} {vs : List V} {H : Hp} {Q Q' : VK} {E : XK} (h : spE K F vs H Q E) (k : ∀ v H', Q v H' → Q' v H') : spE K F vs H Q' E := by
  obtain ⟨B, sls, e, S, no, h⟩ := h
  refine ⟨B, sls, e, S, no, ?_⟩
  cases hF : F sls with
  | ok r ps => rw [hF] at h; exact fun v H' a b => k v H' (h v H' a b)
  | exc c fs ps => rw [hF] at h; exact h
  | no => rw [hF] at h; exact h
def oLen (c : Str) (F : Fn) : List D → EM Sl := fun ds => match ds with
    | [d] => if isC c d = true then lenB (callD F [.dat d]) else fun _ => .no
    | _ => fun _ => .no
theorem ow_len (m : OwnM X.K (ga X.K c) "__len__" f) (Fp : FnE X.prog X.w X.K X.mg X.base k f F) (room : Room (k + 1) X.A) (tk : Takes X (wx E)) : ClW X E (.builtin "len") (oLen c F) := by
  intro pins s σ H xs us Q I rx ⟨B, M, Γ, σ', ds, S, r1, q⟩
  unfold oLen at q
  cases r1 with
  | nil => exact q.elim
  | cons r1 rs =>
    cases rs with
    | cons _ _ => exact q.elim
    | nil =>
      dsimp only at q
      rename_i x d
      by_cases hp : isC c d = true
      · rw [if_pos hp] at q
        obtain ⟨a, dx, fs, rfl, ha⟩ := rep_ins r1 hp
        cases rx with
        | cons rx rxs =>
          cases rxs
          cases rx
          obtain ⟨mA, J, _⟩ := ins_get I.hok ha
          obtain ⟨od, J, _⟩ := J.look
          obtain ⟨m', hF⟩ := I.fr
          have sp : spE X.K F [.ref a] H (fun v H' => ∃ n : Int, v = .int n ∧ (0 ≤ n ∧ n < 9223372036854775808) ∧ Q (.int n) H') E := by
            refine own_use (ds := [d]) S (.cons r1 .nil) ?_
            unfold lenB EM.bind at q
            show (match callD F [.dat d] Γ with | .ok r Γ' => _ | .exc c fs Γ' => _ | .no => False)
            cases hg : callD F [.dat d] Γ with
            | no => rw [hg] at q; exact q
            | exc c fs g => rw [hg] at q; exact q
            | ok r Γ2 =>
              rw [hg] at q
              dsimp only at q ⊢
              intro v H' M' hv
              have rv := hv.dat.2.2
              cases hr : r.d with
              | int n =>
                rw [hr] at q rv
                cases rv
                dsimp only [EM.opt] at q
                by_cases hn : 0 ≤ n ∧ n < 9223372036854775808
                · rw [if_pos hn] at q
                  exact ⟨n, rfl, hn, q _ _ M' ⟨hv.dat.1, hv.dat.2.1, .int n⟩⟩
                · rw [if_neg hn] at q
                  exact q.elim
              | _ => rw [hr] at q; exact q.elim
          refine PySem.W.len_K hF I.ok.mod.kin J m.at_ m.fn ?_
          refine wpAny_mono (run_own (A := X.A.in1) (vs := [.ref a]) Fp room.in1 rfl (pass_of tk) I (.cons rfl .nil) sp) (fun r s' h => ?_) fun _ _ z => z
          obtain ⟨v, H', I', rv, n, rfl, hn, qq⟩ := h
          obtain ⟨t, rfl⟩ := rv
          exact ⟨hn, .int n, H', I'.tok _, ⟨_, rfl⟩, qq⟩
      · rw [if_neg hp] at q
        exact q.elim
end
end Dl
end
section
set_option maxHeartbeats 4000000
set_option autoImplicit false
/-! Own items, in, calls; own texts in f'..'. -/
namespace Dl
variable [Tabl]
open PySem PySem.Spec PyProof.Rows L2 Tx He
open Hx (OwnM OwnI BinT BinC FmtO)
open Evl (Ex)
def oIx (c : Str) (F : Fn) (g : D → D → EM Sl) : D → D → EM Sl := fun d e => if isC c d = true then callD F [.dat d, .dat e] else g d e
section
variable {X : Cx} {E : XK} {k : Nat} {c : Str} {f : Addr} {F : Fn}
theorem run_ix {a b : Expr} (m : OwnI X.K (ga X.K c) f) (Fp : FnE X.prog X.w X.K X.mg X.base k f F) (room : Room (k + 1) X.A) (tk : Takes X (wx E)) (hsl : ∀ (x i : Value), subscripted b true x i = runValue (.builtin "lifetime.subscript" ⟨[x, i], []⟩))
    {pins : List (Addr × Obj)} {σ σ' : L2.St} {H : Hp} {s : Shared} {x y : V} {v u : Value} {Q : VK} {B : Bs} {M : List Addr} {Γ : Gm} {d e : D} (I : Inv X pins σ H s) (rx : RelV x v) (ry : RelV y u) (S : SR X.K B M Γ σ' H) (r1 : Rep X.K (hid H M) x d) (r2 : Rep X.K (hid H M) y e) (hp : isC c d = true)
    (q : match callD F [.dat d, .dat e] Γ with
      | .ok r Γ' => ∀ v H' M', Val X.K B M Γ' σ' H M' H' v r → Q v H'
      | .exc c fs Γ' => Fail X.K (wx E) B σ' c fs Γ'
      | .no => False) : wpAny (model X.prog X.w) X.A (subscriptTail a b v u) (EP X pins σ Q) X.xe s := by
  obtain ⟨p, dx, fs, rfl, ha⟩ := rep_ins r1 hp
  cases rx
  obtain ⟨mA, J, _⟩ := ins_get I.hok ha
  obtain ⟨od, J, _⟩ := J.look
  obtain ⟨m', hF⟩ := I.fr
  exact PySem.W.sub_K hF I.ok.mod.kin J m.at_ m.fi m.fn (run_own (A := X.A.in1) (vs := [.ref p, y]) Fp room.in1 rfl (pass_of tk) I (.cons rfl (.cons ry .nil)) (own_use (ds := [d, e]) S (.cons r1 (.cons r2 .nil)) q)) (hsl _ _)
/-- a[b]: by the own def of the class c, otherwise as built-in things have it -/
theorem de_ixO {a b : Expr} {fa fb : EM Sl} {pos : Pos} {g : D → D → EM Sl} (m : OwnI X.K (ga X.K c) f) (Fp : FnE X.prog X.w X.K X.mg X.base k f F) (room : Room (k + 1) X.A) (tk : Takes X (wx E)) (hsl : ∀ (x i : Value), subscripted b true x i = runValue (.builtin "lifetime.subscript" ⟨[x, i], []⟩))
    (hg : ∀ (pins : List (Addr × Obj)) (s : Shared) (σ : L2.St) (H : Hp) (x y : V) (v u : Value) (Q : VK), Inv X pins σ H s → RelV x v → RelV y u → rW2 X.K E g x y H Q → wpAny (model X.prog X.w) X.A (subscriptTail a b v u) (EP X pins σ Q) X.xe s)
    (ha : PE X a (tD X.K (wx E) fa)) (hb : PE X b (tD X.K (wx E) fb)) : PE X (.Subscript a b pos) (tD X.K (wx E) (dW2 (oIx c F g) fa fb)) := by
  refine ⟨fun pins s σ H Q I h => ?_⟩
  refine Subscript_ (binT ha hb I (q_w2 h) fun v u s2 x y H2 I2 rx ry q => ?_)
  obtain ⟨B, M, Γ, σ', d, e, S, r1, r2, q⟩ := q
  unfold oIx at q
  by_cases hp : isC c d = true
  · rw [if_pos hp] at q
    exact run_ix m Fp room tk hsl I2 rx ry S r1 r2 hp q
  · rw [if_neg hp] at q
    exact hg pins s2 σ H2 x y v u Q I2 rx ry ⟨B, M, Γ, σ', d, e, S, r1, r2, q⟩
theorem ix_of {a b : Expr} {g : D → D → Option Sl} (h : IxR X (rOp X.K g)) (hs : PlainIx b) : ∀ (pins : List (Addr × Obj)) (s : Shared) (σ : L2.St) (H : Hp) (x y : V) (v u : Value) (Q : VK), Inv X pins σ H s → RelV x v → RelV y u → rW2 X.K E (fun d e => EM.opt (g d e)) x y H Q → wpAny (model X.prog X.w) X.A (subscriptTail a b v u) (EP X pins σ Q) X.xe s := by
  intro pins s σ H x y v u Q I rx ry ⟨B, M, Γ, σ', d, e, S, r1, r2, q⟩
  refine h a b pins s σ H x y v u Q I rx ry ?_ (hs _ _)
  unfold EM.opt at q
  dsimp only at q
  cases hg : g d e with
  | none => rw [hg] at q; exact q.elim
  | some r =>
    rw [hg] at q
    exact ⟨M, d, e, r, S.dm, r1, r2, hg, fun v H' n => q v H' M (n.valS S)⟩
/-- x in y, by an own def that gives a truth -/
def boolB (neg : Bool) (f : EM Sl) : EM Sl := f.bind fun x => EM.opt (match x.d with
  | .bl b => some (.dat (.bl (neg ^^ b)))
  | _ => none)
def oIn (c : Str) (neg : Bool) (F : Fn) : D → D → EM Sl := fun e d => if isC c d = true then boolB neg (callD F [.dat d, .dat e]) else fun _ => .no
theorem bool_use {K : PySem.W.Frag} {E : XK} {B : Bs} {M : List Addr} {Γ : Gm} {σ : L2.St} {H : Hp} {Q : VK} {F : Fn} {vs : List V} {ds : List D} {neg : Bool} (S : SR K B M Γ σ H) (r : Reps K (hid H M) vs ds) (h : match boolB neg (callD F (ds.map Ar.dat)) Γ with
  | .ok r Γ' => ∀ v H' M', Val K B M Γ' σ H M' H' v r → Q v H'
  | .exc c fs Γ' => Fail K (wx E) B σ c fs Γ'
  | .no => False) : spE K F vs H (fun v H' => ∃ b : Bool, v = .bl b ∧ Q (.bl (neg ^^ b)) H') E := by
  refine own_use S r ?_
  unfold boolB EM.bind at h
  cases hg : callD F (ds.map Ar.dat) Γ with
  | no => rw [hg] at h; exact h
  | exc c fs g => rw [hg] at h; exact h
  | ok r Γ2 =>
    rw [hg] at h
    dsimp only at h ⊢
    intro v H' M' hv
    have rv := hv.dat.2.2
    cases hr : r.d with
    | bl b =>
      rw [hr] at h rv
      cases rv
      dsimp only [EM.opt] at h
      exact ⟨b, rfl, h _ _ M' ⟨hv.dat.1, hv.dat.2.1, .bl _⟩⟩
    | _ => rw [hr] at h; exact h.elim
theorem ow_inG {neg : Bool} {op : CmpOp} (m : OwnM X.K (ga X.K c) "__contains__" f) (Fp : FnE X.prog X.w X.K X.mg X.base k f F) (room : Room k X.A) (tk : Takes X (wx E))
    (hop : ∀ {pins : List (Addr × Obj)} {σ : L2.St} {s : Shared} {v : Value} {a : Addr} {Q : VK} {ox : Obj} {od : Option Obj} {L : Addr} {m' : Str → Option Value}, X.K.In X.base → Fr X.base L s.heap m' → PySem.W.InstAt s.heap a ox (ga X.K c) od →
      wpAny (model X.prog X.w) X.A (call (.ref f) [.ref a, v]) (fun r s' => wpAny (model X.prog X.w) X.A (truthy r) (fun b => EP X pins σ Q (.bool (neg ^^ b))) X.xe s') X.xe s → wpAny (model X.prog X.w) X.A (compareOp op v (.ref a)) (EP X pins σ Q) X.xe s) :
    OpW X E (compareOp op) (oIn c neg F) := by
  intro pins s σ H y x u v Q I ry rx ⟨B, M, Γ, σ', e, d, S, r2, r1, q⟩
  unfold oIn at q
  by_cases hp : isC c d = true
  · rw [if_pos hp] at q
    obtain ⟨a, dx, fs, rfl, ha⟩ := rep_ins r1 hp
    cases rx
    obtain ⟨mA, J, _⟩ := ins_get I.hok ha
    obtain ⟨od, J, _⟩ := J.look
    obtain ⟨m', hF⟩ := I.fr
    refine hop I.ok.mod.kin hF J (wpAny_mono (run_own (vs := [.ref a, y]) Fp room rfl (pass_of tk) I (.cons rfl (.cons ry .nil)) (bool_use (ds := [d, e]) S (.cons r1 (.cons r2 .nil)) q)) (fun r s' h => ?_) fun _ _ z => z)
    obtain ⟨w, H', I', rw_, b, rfl, qq⟩ := h
    cases rw_
    exact wpAny_mono (tru_ok pins s' σ H' (.bl b) (.bool b) (fun b' H2 => b' = b ∧ H2 = H') I' rfl ⟨b, rfl, rfl, rfl⟩) (fun b' s2 ⟨H2, I2, e1, e2⟩ => by
      subst e1
      subst e2
      exact ⟨.bl (neg ^^ b'), _, I2, rfl, qq⟩) fun _ _ z => z
  · rw [if_neg hp] at q
    exact q.elim
theorem ow_in (m : OwnM X.K (ga X.K c) "__contains__" f) (Fp : FnE X.prog X.w X.K X.mg X.base k f F) (room : Room k X.A) (tk : Takes X (wx E)) : OpW X E (compareOp .In) (oIn c false F) :=
  ow_inG m Fp room tk fun {pins σ s v a Q ox od L m'} KX hF J h => PySem.W.in_K hF KX J m.at_ m.fn (by simpa using h)
theorem ow_notIn (m : OwnM X.K (ga X.K c) "__contains__" f) (Fp : FnE X.prog X.w X.K X.mg X.base k f F) (room : Room k X.A) (tk : Takes X (wx E)) : OpW X E (compareOp .NotIn) (oIn c true F) :=
  ow_inG m Fp room tk fun {pins σ s v a Q ox od L m'} KX hF J h => PySem.W.notIn_K hF KX J m.at_ m.fn (by simpa using h)
/-- x(e, ..), x an instance of c -/
def dCallO (c : Str) (F : Fn) (fo : EM Sl) (ga : EM (List Ar)) : EM Sl := fo.bind fun o => if isC c o.d = true then dCall1 F o.d ga else fun _ => .no
theorem de_callO {fe e : Expr} {es : List Expr} {fo : EM Sl} {gx : EM (List Ar)} {pos : Pos} (he : PE X fe (tD X.K (wx E) fo)) (m : StX.CallO X.K (ga X.K c) f) (Fp : FnE X.prog X.w X.K X.mg X.base k f F) (hr : Room k X.A) (tk : Takes X (wx E)) (ha : PA X (e :: es) (tDA X.K (wx E) gx))
    (ht : eval (.Call fe (e :: es) [] pos) X.env = (do callWith pos (← eval fe X.env) [] (backTo pos (starEach (e :: es) X.env)) (backToKw pos (keywordEach [] X.env))) := by rfl)
    (hs : starEach (e :: es) X.env = (false, eval e X.env) :: starEach es X.env := by rfl) (hpl : (backTo pos (starEach es X.env)).any (·.1) = false := by rfl) : PE X (.Call fe (e :: es) [] pos) (tD X.K (wx E) (dCallO c F fo gx)) := by
  refine PE.imp (StX.pe_callO he m Fp hr (pass_of tk) ha ht hs hpl) fun σ H Q ⟨B, M, Γ, S, h⟩ => ?_
  refine tD_use S ?_
  unfold dCallO EM.bind at h
  cases eo : fo Γ with
  | no => rw [eo] at h; exact h
  | exc k fs g => rw [eo] at h; exact h
  | ok o Γ1 =>
    rw [eo] at h
    intro x H1 M1 S1 e1 r1
    dsimp only at h
    by_cases hp : isC c o.d = true
    · rw [if_pos hp] at h
      obtain ⟨a, dx, fs, rfl, hx⟩ := rep_ins r1 hp
      refine ⟨a, rfl, ?_⟩
      refine ⟨B, M1, Γ1, S1, ?_⟩
      unfold dCall1 EM.bind at h
      cases hg : gx Γ1 with
      | no => rw [hg] at h; exact h
      | exc k fs g => rw [hg] at h; exact h
      | ok as Γ2 =>
        rw [hg] at h
        intro vs H2 M2 S2 e2 av
        have r2 := r1.mono e2
        obtain ⟨a', dx', fs', ea, hx'⟩ := rep_ins r2 hp
        cases ea
        refine ⟨.inr ⟨dx', fs', hx'⟩, spE_use (as := .dat o.d :: as) S2 ⟨r2, av⟩ ?_⟩
        dsimp only at h
        cases hc : callD F (.dat o.d :: as) Γ2 with
        | no => rw [hc] at h; exact h
        | exc c fs g => rw [hc] at h; exact h
        | ok r Γ' => rw [hc] at h; exact fun v H' M' q => h v H' M' (q.of_ex (e1.trans e2))
    · rw [if_neg hp] at h
      exact h.elim
end
end Dl
end
section
set_option maxHeartbeats 4000000
/-! enumerate(tuple). -/
namespace Dl
variable [Tabl]
open PySem PySem.Spec PyProof.Rows L2 Tx He
open AutoSeq1 (wpAny_loadPart')
open Evl (Ex)
theorem enum_newT (a : Addr) (its : Array Value) (n : Nat) (dd : Option Addr) (sl : Array (Option Value)) :
    Meets (Builtin.«enumerate.__new__» ⟨[.type "enumerate", .ref a], []⟩) (fun _ R s => s.heap.get? a = some { cls := .type "tuple", dict := dd, data := .seq its n, slots := sl } ∧
      R (.ok (.ret (.ref (s.heap.push { cls := .type "tuple_iterator", data := .fields #[.ref a, .int 0 0] }).objs.size)))
        { s with heap := (s.heap.push { cls := .type "tuple_iterator", data := .fields #[.ref a, .int 0 0] }).push { cls := .type "enumerate", data := .fields #[.none, .bool false, .ref s.heap.objs.size, rawInt 0, .none, .none] } }) :=
  .of_wp fun prog w A R s0 hh => by
    rcases s0 with ⟨hp, g, d, tk, os⟩
    have hl := hh.1
    have h := hh.2
    have hsub := sub_enumerate
    have hT : Heap.IsTuple (Shared.heap ⟨hp, g, d, tk, os⟩) a its := ⟨_, hl, rfl, n, rfl⟩
    wp_walk using wpAny_loadPart' hl
    refine wpAny_stack_any fun st => wpAny_pure ?_
    split
    · rename_i c _ _ _ _ _
      cases (c == Value.type "enumerate") <;> (wp_walk using wpAny_loadPart' hl, wpAny_pyIter_tuple hT; exact ⟨_, rfl, h⟩)
    · wp_walk using wpAny_loadPart' hl, wpAny_pyIter_tuple hT
      exact ⟨_, rfl, h⟩
theorem call_enumT {prog : Program} {w : World} {A : Around} {E : Value → Shared → Prop} {s : Shared} {a : Addr} {its : Array Value} {Q : Value → Shared → Prop} (hT : s.heap.IsTuple a its)
    (h : ∀ h', IsEnum h' (s.heap.objs.size + 1) s.heap.objs.size 0 .none → h'.IsTupleIter s.heap.objs.size a 0 → (∀ b o, s.heap.get? b = some o → h'.get? b = some o) → Q (.ref (s.heap.objs.size + 1)) { s with heap := h' }) :
    wpAny (model prog w) A (call (.type "enumerate") [.ref a]) Q E s := by
  rcases hT with ⟨⟨c, dd, dt, sl⟩, hl, hc, n, hd⟩
  dsimp only at hc hd
  subst hc hd
  refine callType_new F.called_enumerate (by decide) (F.typeCall_enumerate_1 _) (F.newCall_enumerate_1 _) (fun obj => F.args_object_init_2 obj _) F.entry_enumerate_new (enum_newT a its n dd sl) ⟨hl, ?_⟩
  have sz : (s.heap.push { cls := .type "tuple_iterator", data := .fields #[.ref a, .int 0 0] }).objs.size = s.heap.objs.size + 1 := Heap.size_push ..
  show _ ∧ _
  rw [sz]
  have he : IsEnum ((s.heap.push { cls := .type "tuple_iterator", data := .fields #[.ref a, .int 0 0] }).push { cls := .type "enumerate", data := .fields #[.none, .bool false, .ref s.heap.objs.size, rawInt 0, .none, .none] }) (s.heap.objs.size + 1) s.heap.objs.size 0 .none := by
    have q := Heap.get?_push_size (s.heap.push { cls := .type "tuple_iterator", data := .fields #[.ref a, .int 0 0] }) (o := { cls := .type "enumerate", data := .fields #[.none, .bool false, .ref s.heap.objs.size, rawInt 0, .none, .none] }) rfl
    rw [sz] at q
    exact q
  exact ⟨⟨_, he, rfl⟩, h _ he ⟨_, Heap.get?_push_of_some _ (Heap.get?_push_size _ rfl), rfl, rfl⟩ fun b o x => Heap.get?_push_of_some _ (Heap.get?_push_of_some _ x)⟩
theorem enum_endT {prog : Program} {w : World} {A : Around} {E : Value → Shared → Prop} {s : Shared} {e it a : Addr} {k : Int} {i : Nat} {its : Array Value} {old : Value} {Q : Option Value → Shared → Prop} (hh : A.in1.handled = none) (he : IsEnum s.heap e it k old)
    (hit : s.heap.IsTupleIter it a i) (hT : s.heap.IsTuple a its) (hx : its[i]? = none) (hQ : ∀ h', Heap.ExtBut it s.heap h' → Q none { s with heap := h' }) : wpAny (model prog w) A (pyNext (.ref e)) Q E s := by
  have ty : s.TypeIs (.ref e) "enumerate" := ⟨_, he, rfl⟩
  have body : wpAny (model prog w) A.in1 (Builtin.«enumerate.__next__» ⟨[.ref e], []⟩) (fun _ _ => False) (fun x s' => ∃ h', s' = { s with heap := h' } ∧ Heap.ExtBut it s.heap h' ∧ s'.TypeIs x "StopIteration") s := by
    show wpAny _ _ (field (.ref e) 2 >>= _) _ _ _
    refine wpAny_bind (wpAny_field he rfl (x := .ref it) rfl (wpAny_bind (wpAny_nextOf_tuple_end hh hit hT hx fun h' x ex ⟨o, ho, hc⟩ => ?_)))
    exact ⟨h', rfl, ex, ⟨o, ho, hc⟩⟩
  unfold pyNext
  refine wpAny_bind (wpAny_attempt (wpAny_callSpecial?_slot (name := Str.ofString "__next__") ty F.slot_enumerate_next (wpAny_call_entry F.slot_enumerate_next ty F.entry_enumerate_next (wpAny_mono body (fun _ _ z => z.elim) fun x s' ⟨h', e1, ex, hx'⟩ => ?_) (F.args_enumerate_next_1 _))))
  subst e1
  exact wpAny_bind (wpAny_isInstance (T := "StopIteration") (b := true) hx' isSubtype_stop (wpAny_pure (hQ _ ex)))
/-- the tuple at a, each item in a new pair -/
def ItET (K : PySem.W.Frag) (a : Addr) : It :=
  ⟨fun i H => ∃ (xs : List V) (x : V), SqT K H a xs ∧ xs[i]? = some x, fun i H v H' => ∃ T x, v = .ref T ∧ H T = none ∧ H' = upd H T (.tup [.int (i : Nat), x]) ∧ ∀ xs, SqT K H a xs → xs[i]? = some x, fun i H => ∃ xs : List V, SqT K H a xs ∧ xs.length ≤ i⟩
theorem turn_enumT {P : Program} {w : World} {K : PySem.W.Frag} {elts : List Expr} {kk : Nat} {tpos : Pos} (a e it : Addr) :
    Turn P w K (.Tuple elts kk tpos) (ItET K a) [e, it] e (fun i h => (∃ old, IsEnum h e it ((i : Nat) : Int) old) ∧ h.IsTupleIter it a i ∧ e ≠ it ∧ a ≠ it ∧ a ≠ e) where
  mem := by simp
  obj := fun i h st b hb => by
    rcases st with ⟨⟨old, he⟩, ⟨o, ho, hc, hd⟩, _⟩
    have eb : b = e ∨ b = it := by simpa using hb
    rcases eb with z | z <;> rw [z]
    · exact ⟨_, he, fun v q => nomatch q⟩
    · exact ⟨o, ho, fun v q => by rw [hd] at q; cases q⟩
  keep := fun i h h' st k => by
    rcases st with ⟨⟨old, he⟩, hi, hne, h2, h3⟩
    exact ⟨⟨old, k e (by simp) _ he⟩, hi.at fun o q => k it (by simp) o q, hne, h2, h3⟩
  item := by
    intro X hP hw hK hc i pins s σ H E I hf st hg
    subst hP hw hK
    rcases st with ⟨⟨old, he⟩, hit, hne, hai, hae⟩
    rcases hg with ⟨xs, x, hq, hx⟩
    obtain ⟨its, rv, p, hz⟩ := I.tuple hq
    obtain ⟨u, hu, ru⟩ := rv.get hx
    have hel : e < s.heap.objs.size := Heap.lt_size he
    have hil : it < s.heap.objs.size := by obtain ⟨_, q, _⟩ := hit; exact Heap.lt_size q
    have hal : a < s.heap.objs.size := by obtain ⟨_, q, _⟩ := p; exact Heap.lt_size q
    have hlt : i < its.toArray.size := by
      have := (List.getElem?_eq_some_iff.mp hu).1
      simpa using this
    refine wpAny_pyNext_enum_itemD (D := Draws.tuple (A := X.A.in1) (I.ok.hd hc) it a hai its.toArray) (St := fun i h => h.IsTupleIter it a i ∧ h.IsTuple a its.toArray) he ⟨hit, p⟩ hlt hne (by simp; exact ⟨hne, Ne.symm hae⟩) fun y h' tk py ho hst hT hsz hk => ?_
    have ey : y = u := by
      have : its[i]? = some y := by simpa using py
      rw [hu] at this
      exact (Option.some.inj this).symm
    subst ey
    refine ⟨_, rfl, wpAny_letOwnedTupleGo_enum (s := { s with heap := h', toks := tk + 1 }) ho fun h'' he' sb => ?_⟩
    have hT2 : h''.get? s.heap.objs.size = some { cls := .type "tuple", data := .seq #[.int i tk, y] } := (sb.2 _ (Nat.ne_of_gt hel)).trans hT
    have new : ObjOk X.prog X.w (upd H s.heap.objs.size (.tup [.int (i : Nat), x])) h'' s.heap.objs.size (.tup [.int (i : Nat), x]) :=
      ⟨by show 2 ≤ sizeLine; decide, [.int i tk, y], .cons ⟨_, rfl⟩ (.cons ru .nil), ⟨_, hT2, rfl, _, rfl⟩⟩
    have I1 : Inv X pins σ (upd H s.heap.objs.size (.tup [.int (i : Nat), x])) { s with heap := h'', toks := tk + 1 } :=
      I.turnedNew (ch := [e, it]) (fun b ob hb q => (sb.2 b (fun z => hb (by simp [z]))).trans (hk b ob (fun z => hb (by simp [z])) (fun z => hb (by simp [z])) q)) hf (Nat.le_refl _) new
    refine ⟨.ref s.heap.objs.size, _, I1, rfl, ⟨_, x, rfl, I.hok.fresh (Nat.le_refl _), rfl, fun ys hy => by rw [I.tuple_inj hy hq]; exact hx⟩, ⟨⟨y, ?_⟩, hst.1.at fun o q => (sb.2 it (Ne.symm hne)).trans q, hne, hai, hae⟩, fun b hb => ?_⟩
    · have e1 : ((i + 1 : Nat) : Int) = (i : Int) + 1 := by omega
      rw [e1]
      exact he'
    · have hb' : b < s.heap.objs.size := by
        have eb : b = e ∨ b = it := by simpa using hb
        rcases eb with z | z <;> rw [z] <;> assumption
      rw [upd_ne (Nat.ne_of_lt hb')]
      exact (hf b hb).1
  done := by
    intro X hP hw hK hc i pins s σ H E I hf st hg
    subst hP hw hK
    rcases st with ⟨⟨old, he⟩, hit, hne, hai, hae⟩
    rcases hg with ⟨xs, hq, hx⟩
    obtain ⟨its, rv, p, hz⟩ := I.tuple hq
    obtain ⟨f0, f1, f2, f3, f4, f5⟩ := hf it (by simp)
    have hl := rv.length
    exact enum_endT (I.ok.hd hc) he hit p (by simp; omega) fun h' eb => ⟨rfl, I.turned (t' := s.toks) (fun b o hb q => eb b o hb q) f0 f1 f3 f4 f5⟩
  self := fun A i s Q E st h => let ⟨⟨_, he⟩, _⟩ := st; wpAny_pyIter_enum he h
def iEnumT (K : PySem.W.Frag) (ta : TA) : TI := fun σ H R => ta σ H fun vs H1 => ∃ a xs, vs = [.ref a] ∧ SqT K H1 a xs ∧ R (ItET K a) H1
/-- enumerate of a list or a tuple -/
theorem pi_enumA {X : Cx} {e : Expr} {ta : TA} {p pos tpos : Pos} {elts : List Expr} {kk : Nat} (hg : Gl X "enumerate") (hm : X.mg "enumerate" = none) (ha : PA X [e] ta) (hs : starEach [e] X.env = [(false, eval e X.env)] := by rfl) :
    PI X (.Tuple elts kk tpos) (.Call (.Name "enumerate" p) [e] [] pos) (fun σ H R => ta σ H fun vs H1 => ∃ a xs, vs = [.ref a] ∧ ((SqL X.K H1 a xs ∧ R (Ite X.K a) H1) ∨ (SqT X.K H1 a xs ∧ R (ItET X.K a) H1))) := by
  refine ⟨fun pins s σ H R I h => ?_⟩
  refine Call_ (ld_blt I hg hm boot_enumerate (PyProof.Rows.callWith_type1 (thn (ha.run pos pins s σ H _ I h) fun us s1 ⟨vs, H1, I1, r1, a, xs, ex, q⟩ => ?_) hs rfl))
  subst ex
  cases r1 with
  | cons r rr =>
    cases rr
    cases r
    have fin : ∀ {h' : Heap} {J : It} {st : Nat → Heap → Prop}, Inv X pins σ H1 { s1 with heap := h' } → Turn X.prog X.w X.K (.Tuple elts kk tpos) J [s1.heap.objs.size + 1, s1.heap.objs.size] (s1.heap.objs.size + 1) st → st 0 h' → R J H1 → PIE X pins σ (.Tuple elts kk tpos) R (.ref (s1.heap.objs.size + 1)) { s1 with heap := h' } := fun {h' J st} I2 tn s0 q => by
      refine ⟨s1.heap.objs.size + 1, [s1.heap.objs.size + 1, s1.heap.objs.size], _, _, H1, rfl, I2, tn, s0, fun b hb => ?_, q⟩
      have hle : s1.heap.objs.size ≤ b := by
        have eb : b = s1.heap.objs.size + 1 ∨ b = s1.heap.objs.size := by simpa using hb
        rcases eb with z | z
        · exact z ▸ Nat.le_succ _
        · exact z ▸ Nat.le_refl _
      exact I1.fpOk hle (I1.hok.fresh hle)
    rcases q with ⟨hq, q⟩ | ⟨hq, q⟩
    · obtain ⟨its, rv, p', hz⟩ := I1.list hq
      refine call_enumerate_list p'.isList fun h' he hit hsz hk => wpAny_pyIter_enum he ?_
      exact fin (I1.kept (t' := s1.toks) hk) (turn_enum a _ _) ⟨⟨.none, he⟩, hit, Nat.succ_ne_self _⟩ q
    · obtain ⟨its, rv, p', hz⟩ := I1.tuple hq
      have hal : a < s1.heap.objs.size := by obtain ⟨_, q, _⟩ := p'; exact Heap.lt_size q
      refine call_enumT p' fun h' he hit hk => wpAny_pyIter_enum he ?_
      exact fin (I1.kept (t' := s1.toks) hk) (turn_enumT a _ _) ⟨⟨.none, he⟩, hit, Nat.succ_ne_self _, Nat.ne_of_lt hal, Nat.ne_of_lt (Nat.lt_succ_of_lt hal)⟩ q
section
variable {K : PySem.W.Frag} {M : List Addr} {H : Hp}
theorem yields_enumT {a : Addr} {vs : List V} {ds : List D} (hs : SqT K (hid H M) a vs) (r : Reps K (hid H M) vs ds) : Yields K M H (ItET K a) (enumD 0 ds) := fun H2 M2 ex dm i => by
  have hs2 : SqT K H2 a vs := Evl.ex_t hid_ex (Evl.ex_t ex hs)
  have hl := r.length
  refine ⟨fun hi => ?_, fun hi => ⟨vs, hs2, by rw [enumD_len] at hi; omega⟩, fun x H3 d hd hy => ?_⟩
  · rw [enumD_len] at hi
    obtain ⟨x, e⟩ := reps_lt r hi
    exact ⟨vs, x, hs2, e⟩
  · obtain ⟨T, y, rfl, hT, rfl, hy⟩ := hy
    obtain ⟨e, h1, rfl⟩ := enumD_get hd
    obtain ⟨u, e1, e2⟩ := r.at h1
    have eu := Option.some.inj (e1.symm.trans (hy vs hs2))
    subst eu
    have n := new_tup (K := K) dm hT (vs := [.int (i : Nat), u]) (ds := [.int ((0 + i : Nat) : Int), e]) (.cons (by rw [Nat.zero_add]; exact .int _) (.cons (e2.mono ex) .nil))
    exact ⟨Evl.Ex.new hT, n.2⟩
end
def enumA : List D → Option (List D)
  | [.lst xs] => some (enumD 0 xs)
  | [.tup xs] => some (enumD 0 xs)
  | _ => none
@[simp] theorem enumA_lst {xs : List D} : enumA [.lst xs] = some (enumD 0 xs) := rfl
@[simp] theorem enumA_tup {xs : List D} : enumA [.tup xs] = some (enumD 0 xs) := rfl
theorem di_enumA {X : Cx} {W : WX} {a : Expr} {gx : EM (List Ar)} {p pos tpos : Pos} {elts : List Expr} {kk : Nat} (hg : Gl X "enumerate") (hm : X.mg "enumerate" = none) (ha : PA X [a] (tDA X.K W gx)) (hs : starEach [a] X.env = [(false, eval a X.env)] := by rfl) : PI X (.Tuple elts kk tpos) (.Call (.Name "enumerate" p) [a] [] pos) (tDI X.K W (dItA enumA gx)) :=
  PI.imp (pi_enumA hg hm ha hs) fun σ H R h => q_it h fun vs H1 M1 ds es r hg k => by
    unfold enumA at hg
    split at hg
    · cases hg
      cases r with
      | cons r1 r2 =>
        cases r1 with
        | lst s1 t1 =>
          cases r2
          exact ⟨_, _, rfl, .inl ⟨Evl.sq_of (hid_of s1).2, k _ (yields_enum (Evl.sq_of s1) t1)⟩⟩
    · cases hg
      cases r with
      | cons r1 r2 =>
        cases r1 with
        | tup s1 t1 =>
          cases r2
          exact ⟨_, _, rfl, .inr ⟨Evl.st_of (hid_of s1).2, k _ (yields_enumT (Evl.st_of s1) t1)⟩⟩
    · cases hg
end Dl
end
section
set_option maxHeartbeats 4000000
set_option autoImplicit false
/-! Things held alone, lent to what keeps nothing of them. -/
namespace Dl
open PySem PySem.Spec PyProof.Rows L2 Tx He
open Evl (Ex)
section
variable [Tabl]
def arDs (Γ : Gm) : List Ar → Option (List D)
  | [] => some []
  | .dat d :: as => (arDs Γ as).map (d :: ·)
  | .slot i :: as => (heldD Γ i).bind fun d => (arDs Γ as).map (d :: ·)
def scalD : D → Bool
  | .non => true
  | .bl _ => true
  | .int _ => true
  | .str _ => true
  | _ => false
def lendR (o : Option Sl) (Γ : Gm) : Rs Sl := match o with
  | some (.dat s) => if scalD s = true then .ok (.dat s) Γ else .no
  | _ => .no
def dClS (g : List D → Option Sl) (ga : EM (List Ar)) : EM Sl := ga.bind fun as Γ => lendR ((arDs Γ as).bind g) Γ
section
variable {K : PySem.W.Frag} {W : WX} {B : Bs} {M : List Addr} {Γ : Gm} {σ : L2.St} {H : Hp}
theorem dm_nil (t : TabsH H) : Dm [] H := ⟨fun a h => by simp at h, t⟩
theorem held_repT (S : SR K B M Γ σ H) {i : Nat} {d : D} {v : V} (h : heldD Γ i = some d) (e : σ[i]? = some (some v)) : Rep K (hid H []) v d := by
  obtain ⟨_, p, e1, _, o⟩ := heldD_at S h
  rw [e] at e1
  cases e1
  have o2 : OwnAt K (hid H M) (hid H []) p d := o.mono (Evl.Ex.refl _) fun u z => hid_at (by simp) z (o.nt z)
  exact o2.rep (hid_sub (by simp))
theorem held_rep (S : SR K B M Γ σ H) {i : Nat} {d : D} {v : V} (h : heldD Γ i = some d) (e : σ[i]? = some (some v)) : Rep K H v d := (held_repT S h e).mono hid_ex
theorem argv_lend (S : SR K B M Γ σ H) : ∀ {vs : List V} {as : List Ar} {ds : List D}, ArgV K M σ H vs as → arDs Γ as = some ds → Reps K (hid H []) vs ds
  | [], [], _, _, e => by cases e; exact .nil
  | v :: vs, .dat d :: as, ds, ⟨a, b⟩, e => by
    unfold arDs at e
    cases q : arDs Γ as with
    | none => rw [q] at e; cases e
    | some l => rw [q] at e; cases e; exact .cons (a.mono (hid_sub (by simp))) (argv_lend S b q)
  | v :: vs, .slot i :: as, ds, ⟨a, b⟩, e => by
    unfold arDs at e
    cases q0 : heldD Γ i with
    | none => rw [q0] at e; cases e
    | some d =>
      cases q : arDs Γ as with
      | none => rw [q0, q] at e; cases e
      | some l => rw [q0, q] at e; cases e; exact .cons (held_repT S q0 a) (argv_lend S b q)
theorem scal_rep {H H' : Hp} {v : V} {d : D} (h : scalD d = true) (r : Rep K H v d) : Rep K H' v d := by
  cases r with
  | non => exact .non
  | bl b => exact .bl b
  | int i => exact .int i
  | str z => exact .str z
  | _ => cases h
theorem q_cls {g : List D → Option Sl} {gx : EM (List Ar)} {Q : VK} (h : tD K W (dClS g gx) σ H Q) : tCB (rCl K g) (tDA K W gx) σ H Q := by
  obtain ⟨B, M, Γ, S, h⟩ := h
  refine ⟨B, M, Γ, S, ?_⟩
  unfold dClS EM.bind at h
  cases ha : gx Γ with
  | no => rw [ha] at h; exact h
  | exc c fs g => rw [ha] at h; exact h
  | ok as Γ1 =>
    rw [ha] at h
    intro vs H1 M1 S1 e1 av
    dsimp only at h
    unfold lendR at h
    cases hd : arDs Γ1 as with
    | none => rw [hd] at h; exact h.elim
    | some ds =>
      rw [hd] at h
      simp only [Option.bind_some] at h
      cases hg : g ds with
      | none => rw [hg] at h; exact h.elim
      | some r =>
        rw [hg] at h
        cases r with
        | own d => exact h.elim
        | par d => exact h.elim
        | dat s =>
          dsimp only at h
          by_cases hs : scalD s = true
          · rw [if_pos hs] at h
            refine ⟨[], ds, .dat s, dm_nil S1.tab, argv_lend S1 av hd, hg, fun v H' n => ?_⟩
            exact h v H' M1 ⟨S1.extT n.1, e1.trans (hid_monoT n.1), scal_rep hs n.2⟩
          · rw [if_neg hs] at h
            exact h.elim
end
section
variable {X : Cx} {W : WX} {e : Expr} {es : List Expr} {gx : EM (List Ar)} {pos p : Pos} {x : Str}
theorem de_callBS {g : List D → Option Sl} {id : String} (hc : ClD X (.builtin id) g) (hg : Gl X x) (hm : X.mg x = none) (hv : bootBuiltins x = some (.builtin id)) (ha : PA X (e :: es) (tDA X.K W gx)) (hn : x ≠ "__name__" := by decide) (hdb : (x == ("__debug__" : Str)) = false := by decide)
    (he : starEach (e :: es) X.env = (false, eval e X.env) :: starEach es X.env := by rfl) (hpl : (backTo pos (starEach es X.env)).any (·.1) = false := by rfl) : PE X (.Call (.Name x p) (e :: es) [] pos) (tD X.K W (dClS g gx)) := PE.imp (pe_callB hc hg hm hv ha hn hdb he hpl) fun _ _ _ h => q_cls h
/-- *x, x held alone -/
def dAStarS (i : Nat) (ga : EM (List Ar)) : EM (List Ar) := fun Γ => match lstOf (heldD Γ i) with
  | some ds => (ga.bind fun as => EM.ret (ds.map Ar.dat ++ as)) Γ
  | none => dAStar (dVar i) ga Γ
theorem da_starS {i : Nat} {q : Pos} (hN : X.N[i]? = some x) (hv : Vis X.env.scope x) (hr : PA X es (tDA X.K W gx)) (hd : (x == ("__debug__" : Str)) = false := by decide) (hcd : (x == ("__classdict__" : Str)) = false := by decide)
    (hs : starEach (.Starred (.Name x p) q :: es) X.env = (true, eval (.Name x p) X.env) :: starEach es X.env := by rfl) : PA X (.Starred (.Name x p) q :: es) (tDA X.K W (dAStarS i gx)) := by
  have plain := da_star (X := X) (W := W) (p := q) (de_var (W := W) (pos := p) (i := i) hN hv hd hcd) hr hs
  have lent := StX.pa_star (X := X) (p := q) (pe_var (pos := p) hN hv hd hcd) hr hs
  refine ⟨fun pos pins s σ H Q I ⟨B, M, Γ, S, h⟩ => ?_⟩
  unfold dAStarS at h
  cases hl : lstOf (heldD Γ i) with
  | none =>
    rw [hl] at h
    exact plain.run pos pins s σ H Q I ⟨B, M, Γ, S, h⟩
  | some ds =>
    rw [hl] at h
    have hh := lstOf_some hl
    obtain ⟨_, p', e1, hm, o⟩ := heldD_at S hh
    obtain ⟨vs, ho, rs⟩ := o
    refine lent.run pos pins s σ H Q I ⟨_, e1, p', vs, rfl, .inr (Evl.sq_of ho), B, M, Γ, S, ?_⟩
    dsimp only [EM.bind] at h
    cases e2 : gx Γ with
    | no => rw [e2] at h; exact h
    | exc c fs g => rw [e2] at h; exact h
    | ok as Γ2 =>
      rw [e2] at h
      exact fun us H2 M2 S2 ex av => h _ H2 M2 S2 ex (ArgV.reps (rs.mono ex) av)
end
/-- x, data or held -/
def dAPk (i : Nat) (ga : EM (List Ar)) : EM (List Ar) := fun Γ => match Γ[i]? with
  | some (some (.dat d)) => dACons (dVar i) ga Γ
  | _ => dASlot i ga Γ
theorem dvpk {X : Cx} {W : WX} {es : List Expr} {gx : EM (List Ar)} (i : Nat) {x : Str} {p : Pos} (hr : PA X es (tDA X.K W gx)) (hN : X.N[i]? = some x := by rfl) (hv : Vis X.env.scope x := by first | exact Or.inl rfl | exact Or.inr (Or.inl rfl) | exact Or.inr (Or.inr rfl))
    (hd : (x == ("__debug__" : Str)) = false := by decide) (hcd : (x == ("__classdict__" : Str)) = false := by decide) (hs : starEach (.Name x p :: es) X.env = (false, eval (.Name x p) X.env) :: starEach es X.env := by rfl) : PA X (.Name x p :: es) (tDA X.K W (dAPk i gx)) := by
  have h1 := da_cons (X := X) (W := W) (de_var (W := W) (pos := p) (i := i) hN hv hd hcd) hr hs
  have h2 := da_slot (X := X) (W := W) (i := i) (p := p) hN hv hr hd hcd hs
  refine ⟨fun pos pins s σ H Q I ⟨B, M, Γ, S, h⟩ => ?_⟩
  unfold dAPk at h
  split at h <;> rename_i q <;> split at q
  all_goals first
    | exact h1.run pos pins s σ H Q I ⟨B, M, Γ, S, by rw [q]; exact h⟩
    | exact h2.run pos pins s σ H Q I ⟨B, M, Γ, S, by rw [q]; exact h⟩
theorem dvas {X : Cx} {W : WX} {es : List Expr} {gx : EM (List Ar)} (i : Nat) {x : Str} {p q : Pos} (hr : PA X es (tDA X.K W gx)) (hN : X.N[i]? = some x := by rfl) (hv : Vis X.env.scope x := by first | exact Or.inl rfl | exact Or.inr (Or.inl rfl) | exact Or.inr (Or.inr rfl))
    (hd : (x == ("__debug__" : Str)) = false := by decide) (hcd : (x == ("__classdict__" : Str)) = false := by decide) (hs : starEach (.Starred (.Name x p) q :: es) X.env = (true, eval (.Name x p) X.env) :: starEach es X.env := by rfl) : PA X (.Starred (.Name x p) q :: es) (tDA X.K W (dAStarS i gx)) := da_starS hN hv hr hd hcd hs
/-! for simp -/
end
section
variable {Γ : Gm} {d : D} {i : Nat} {ga : EM (List Ar)} {s : D}
def pkR (o : Option (Option Sl)) (i : Nat) (ga : EM (List Ar)) (Γ : Gm) : Rs (List Ar) := match o with
  | some (some (.dat d)) => (ga Γ).an fun as Γ2 => .ok (.dat d :: as) Γ2
  | o => slotR o i ga Γ
@[simp] theorem pkR_dat : pkR (some (some (.dat d))) i ga Γ = (ga Γ).an fun as Γ2 => .ok (.dat d :: as) Γ2 := rfl
@[simp] theorem pkR_own : pkR (some (some (.own d))) i ga Γ = (ga Γ).an fun as Γ2 => .ok (.slot i :: as) Γ2 := rfl
@[simp] theorem pkR_par : pkR (some (some (.par d))) i ga Γ = (ga Γ).an fun as Γ2 => .ok (.slot i :: as) Γ2 := rfl
@[simp] theorem ev_apk : dAPk i ga Γ = pkR Γ[i]? i ga Γ := by
  unfold dAPk pkR
  split
  · rename_i d h
    rw [ev_acons, ev_var, h]
    rfl
  · rw [ev_aslot]
@[simp] theorem ev_cls {g : List D → Option Sl} : dClS g ga Γ = (ga Γ).an fun as Γ1 => lendR (bindO (arDs Γ1 as) g) Γ1 := by unfold dClS bindO; simp
@[simp] theorem lendR_bl {b : Bool} : lendR (some (.dat (.bl b))) Γ = .ok (.dat (.bl b)) Γ := rfl
@[simp] theorem lendR_int {j : Int} : lendR (some (.dat (.int j))) Γ = .ok (.dat (.int j)) Γ := rfl
@[simp] theorem lendR_str {z : Str} : lendR (some (.dat (.str z))) Γ = .ok (.dat (.str z)) Γ := rfl
@[simp] theorem arDs_nil : arDs Γ [] = some [] := rfl
@[simp] theorem arDs_dat {as : List Ar} : arDs Γ (.dat d :: as) = (arDs Γ as).map (d :: ·) := rfl
@[simp] theorem arDs_slot {as : List Ar} : arDs Γ (.slot i :: as) = (heldR Γ[i]?).bind fun d => (arDs Γ as).map (d :: ·) := rfl
def starS (o : Option D) (i : Nat) (ga : EM (List Ar)) (Γ : Gm) : Rs (List Ar) := match o with
  | some (.lst ds) => (ga Γ).an fun as Γ2 => .ok (ds.map Ar.dat ++ as) Γ2
  | _ => dAStar (dVar i) ga Γ
@[simp] theorem starS_lst {ds : List D} : starS (some (.lst ds)) i ga Γ = (ga Γ).an fun as Γ2 => .ok (ds.map Ar.dat ++ as) Γ2 := rfl
@[simp] theorem starS_none : starS none i ga Γ = dAStar (dVar i) ga Γ := rfl
@[simp] theorem ev_astarS : dAStarS i ga Γ = starS (heldR Γ[i]?) i ga Γ := by
  unfold dAStarS starS
  have e : heldD Γ i = heldR Γ[i]? := rfl
  rw [e]
  cases heldR Γ[i]? with
  | none => rfl
  | some d => cases d <;> first | rfl | (simp only [lstOf, ev_bind, ev_ret])
@[simp] theorem heldR_dat : heldR (some (some (.dat d))) = none := rfl
@[simp] theorem ev_w1 {g : D → EM Sl} {fa : EM Sl} : dW1 g fa Γ = (fa Γ).an fun x Γ1 => g x.d Γ1 := by unfold dW1; simp
@[simp] theorem ev_w2 {g : D → D → EM Sl} {fa fb : EM Sl} : dW2 g fa fb Γ = (fa Γ).an fun x Γ1 => (fb Γ1).an fun y Γ2 => g x.d y.d Γ2 := by unfold dW2; simp
def dsR (g : List D → EM Sl) (o : Option (List D)) (Γ : Gm) : Rs Sl := match o with
  | some ds => g ds Γ
  | none => .no
@[simp] theorem dsR_some {g : List D → EM Sl} {ds : List D} : dsR g (some ds) Γ = g ds Γ := rfl
@[simp] theorem ev_wl {g : List D → EM Sl} : dWL g ga Γ = (ga Γ).an fun as Γ1 => dsR g (dats as) Γ1 := by
  unfold dWL; simp only [ev_bind]; rfl
variable {cs : List Str} {ts : List Ck} {c : Str} {F : Fn} {e : D}
@[simp] theorem ev_oCmp : oCmp cs ts c F d e Γ = if isC c d = true ∧ tyOk cs ts e = true then callD F [.dat d, .dat e] Γ else .no := by unfold oCmp; split <;> rfl
@[simp] theorem ev_oBinS : oBinS c F d e Γ = if isC c d = true ∧ isC c e = true then callD F [.dat d, .dat e] Γ else .no := by unfold oBinS; split <;> rfl
@[simp] theorem ev_oUn : oUn c F d Γ = if isC c d = true then callD F [.dat d] Γ else .no := by unfold oUn; split <;> rfl
@[simp] theorem ev_oIx {g : D → D → EM Sl} : oIx c F g d e Γ = if isC c d = true then callD F [.dat d, .dat e] Γ else g d e Γ := by unfold oIx; split <;> rfl
def lenR (r : Rs Sl) : Rs Sl := r.an fun x Γ => rO (match x.d with
  | .int n => @ite _ (0 ≤ n ∧ n < 9223372036854775808) (@instDecidableAnd _ _ _ (ltD _ _)) (some (.dat (.int n))) none
  | _ => none) Γ
@[simp] theorem lenR_int {n : Int} (h : 0 ≤ n) (h2 : n < 9223372036854775808) : lenR (.ok (.dat (.int n)) Γ) = .ok (.dat (.int n)) Γ := by
  show rO (@ite _ (0 ≤ n ∧ n < 9223372036854775808) (@instDecidableAnd _ _ _ (ltD _ _)) _ _) Γ = _
  rw [if_pos ⟨h, h2⟩]; rfl
@[simp] theorem ev_oLen : oLen c F [d] Γ = if isC c d = true then lenR (callD F [.dat d] Γ) else .no := by
  unfold oLen lenB
  dsimp only
  split
  · simp only [ev_bind, ev_opt]; rfl
  · rfl
def boolR (neg : Bool) (r : Rs Sl) : Rs Sl := r.an fun x Γ => rO (match x.d with
  | .bl b => some (.dat (.bl (neg ^^ b)))
  | _ => none) Γ
@[simp] theorem boolR_bl {neg b : Bool} : boolR neg (.ok (.dat (.bl b)) Γ) = .ok (.dat (.bl (neg ^^ b))) Γ := rfl
@[simp] theorem ev_oIn {neg : Bool} : oIn c neg F e d Γ = if isC c d = true then boolR neg (callD F [.dat d, .dat e] Γ) else .no := by
  unfold oIn boolB
  split
  · simp only [ev_bind, ev_opt]; rfl
  · rfl
@[simp] theorem ev_callO {fo : EM Sl} : dCallO c F fo ga Γ = (fo Γ).an fun o Γ1 => if isC c o.d = true then dCall1 F o.d ga Γ1 else .no := by
  unfold dCallO; simp only [ev_bind]; congr 1; funext o Γ1; split <;> rfl
end
end Dl
namespace Dl
open PySem PySem.Spec PyProof.Rows L2 Tx He
open Hx (OwnM OwnI BinT BinC)
section
variable [Tabl]
/-- x op y by an own def, y of the same class or of a built-in type -/
def oBin (c : Str) (bts : List String) (F : Fn) : D → D → EM Sl := fun d e => if isC c e = true then oBinS c F d e else oBinT c bts F d e
theorem ow_bin {X : Cx} {E : XK} {k : Nat} {c : Str} {f : Addr} {F : Fn} {op : Operator} {sy nm : String} {bts : List String} (hi : op.info = (sy, nm)) (hk : Hx.InsK X.K (ga X.K c)) (bt : ∀ T ∈ bts, BinT X.K (ga X.K c) nm T) (bc : BinC X.K (ga X.K c) nm) (m : OwnM X.K (ga X.K c) (PySem.dunder nm) f)
    (Fp : FnE X.prog X.w X.K X.mg X.base k f F) (room : Room k X.A) (tk : Takes X (wx E)) : OpW X E (binaryOp op) (oBin c bts F) := ow_or (p := fun _ e => isC c e) (ow_binS hi hk bc m Fp room tk) (ow_binT hi bt bc m Fp room tk)
end
section
variable {Γ : Gm} {d e : D} {c : Str} {F : Fn} {bts : List String}
@[simp] theorem ev_oBinT : oBinT c bts F d e Γ = if isC c d = true ∧ ((tyB e).any fun t => bts.contains t) = true then callD F [.dat d, .dat e] Γ else .no := by unfold oBinT; split <;> rfl
@[simp] theorem ev_oBin : oBin c bts F d e Γ = if isC c e = true then oBinS c F d e Γ else oBinT c bts F d e Γ := by unfold oBin; split <;> rfl
end
end Dl
end
section
set_option maxHeartbeats 4000000
set_option autoImplicit false
/-! Comprehensions over lists of any length; draws in a row. -/
namespace Dl
/-- plain laws ask for no table: any will do -/
instance (priority := low) tabl0 : Tabl := ⟨[]⟩
open PySem PySem.Spec PyProof.Rows L2 Tx He
theorem toPar_len (Γ : Gm) : (toPar Γ).length = Γ.length := List.length_map ..
theorem fromPar_toPar : ∀ (Γ : Gm), fromPar Γ (toPar Γ) = Γ
  | [] => rfl
  | x :: Γ => by rw [toPar_cons, fromPar_cons, frP_toP, fromPar_toPar Γ]
theorem fromPar_set : ∀ (Γ Γ' : Gm) (i : Nat) (d : D), Γ.length = Γ'.length → fromPar Γ (Γ'.set i (some (.dat d))) = (fromPar Γ Γ').set i (some (.dat d))
  | [], [], _, _, _ => by cases ‹Nat› <;> rfl
  | x :: Γ, y :: Γ', 0, d, _ => by simp
  | x :: Γ, y :: Γ', i + 1, d, h => by
    have := fromPar_set Γ Γ' i d (by simpa using h)
    simp [this]
  | [], _ :: _, _, _, h => by simp at h
  | _ :: _, [], _, _, h => by simp at h
/-- a comprehension that leaves the slots as they are -/
theorem lc_fm {gt : D → Gm → Option Gm} {tt : EM Bool} {te : EM Sl} {vs : List Nat} {Γ : Gm} {α : Type} {a : α → D} {p : α → Bool} {h : α → D} (G : α → Gm) (hw : wipeG Γ vs = Γ) (hl : ∀ d, (G d).length = Γ.length) (hb : ∀ d, wipeG (fromPar Γ (G d)) vs = Γ) :
    ∀ (xs : List α) (acc : List D), (∀ d ∈ xs, gt (a d) (toPar Γ) = some (G d) ∧ tt (G d) = .ok (p d) (G d) ∧ (p d = true → ∃ s, te (G d) = .ok s (G d) ∧ s.d = h d)) → acc.length + xs.length < 1000000 → lcL gt tt te vs (xs.map a) acc Γ = .ok (acc ++ (xs.filter p).map h) Γ
  | [], acc, _, _ => by simp
  | d :: ds, acc, k, hz => by
    obtain ⟨e1, e2, e3⟩ := k d (List.mem_cons_self ..)
    have ih := fun acc' hz' => lc_fm G hw hl hb (gt := gt) (te := te) (tt := tt) (p := p) (h := h) ds acc' (fun x hx => k x (List.mem_cons_of_mem _ hx)) hz'
    simp only [List.length_cons] at hz
    rw [List.map_cons, lcL_cons, hw, e1, lcO_some, e2]
    cases hp : p d with
    | false =>
      rw [lcA_f, if_pos (hl d), hb, ih acc (by omega)]
      simp [hp]
    | true =>
      obtain ⟨s, e4, e5⟩ := e3 hp
      rw [lcA_t, e4, lcB_ok (by omega) (hl d), hb, ih (acc ++ [s.d]) (by simp; omega), e5]
      simp [hp]
/-- .. of one name -/
theorem lc_one {i : Nat} {tt : EM Bool} {te : EM Sl} {Γ : Gm} {α : Type} {a : α → D} {p : α → Bool} {h : α → D} (hn : Γ.set i none = Γ) (xs : List α) (acc : List D) (k : ∀ d ∈ xs, tt ((toPar Γ).set i (some (.dat (a d)))) = .ok (p d) ((toPar Γ).set i (some (.dat (a d)))) ∧ (p d = true → ∃ s, te ((toPar Γ).set i (some (.dat (a d)))) = .ok s ((toPar Γ).set i (some (.dat (a d)))) ∧ s.d = h d))
    (hz : acc.length + xs.length < 1000000) : lcL (gD i) tt te [i] (xs.map a) acc Γ = .ok (acc ++ (xs.filter p).map h) Γ :=
  lc_fm (fun d => (toPar Γ).set i (some (.dat (a d)))) (by simp [hn]) (fun d => by rw [List.length_set, toPar_len]) (fun d => by
    rw [fromPar_set _ _ _ _ (toPar_len Γ).symm, fromPar_toPar]
    simp [hn]) xs acc (fun d hd => ⟨rfl, k d hd⟩) hz
/-- .. without a test -/
theorem lc_map1 {i : Nat} {tt : EM Bool} {te : EM Sl} {Γ : Gm} {α : Type} {a : α → D} (h : α → D) (hn : Γ.set i none = Γ) (xs : List α) (k : ∀ d ∈ xs, tt ((toPar Γ).set i (some (.dat (a d)))) = .ok true ((toPar Γ).set i (some (.dat (a d)))) ∧ (∃ s, te ((toPar Γ).set i (some (.dat (a d)))) = .ok s ((toPar Γ).set i (some (.dat (a d)))) ∧ s.d = h d))
    (hz : xs.length < 1000000) : lcL (gD i) tt te [i] (xs.map a) [] Γ = .ok (xs.map h) Γ := by
  have e := lc_one (p := fun _ => true) (h := h) hn xs [] (fun d hd => ⟨(k d hd).1, fun _ => (k d hd).2⟩) (by simpa using hz)
  rw [e, List.nil_append, List.filter_eq_self.mpr fun _ _ => rfl]
/-- .. of two names, over pairs -/
theorem lc_two {i j : Nat} {tt : EM Bool} {te : EM Sl} {Γ : Gm} {α : Type} {a b : α → D} {p : α → Bool} {h : α → D} (hi : Γ.set i none = Γ) (hj : Γ.set j none = Γ) (xs : List α) (acc : List D)
    (k : ∀ x ∈ xs, tt (((toPar Γ).set i (some (.dat (a x)))).set j (some (.dat (b x)))) = .ok (p x) (((toPar Γ).set i (some (.dat (a x)))).set j (some (.dat (b x)))) ∧ (p x = true → ∃ s, te (((toPar Γ).set i (some (.dat (a x)))).set j (some (.dat (b x)))) = .ok s (((toPar Γ).set i (some (.dat (a x)))).set j (some (.dat (b x)))) ∧ s.d = h x))
    (hz : acc.length + xs.length < 1000000) : lcL (gDTup 2 (gDCons (gD i) (gDCons (gD j) gDNil))) tt te [i, j] (xs.map fun x => .tup [a x, b x]) acc Γ = .ok (acc ++ (xs.filter p).map h) Γ :=
  lc_fm (fun x => ((toPar Γ).set i (some (.dat (a x)))).set j (some (.dat (b x)))) (by simp [hi, hj]) (fun d => by simp [toPar_len]) (fun d => by
    rw [fromPar_set _ _ _ _ (by simp [toPar_len]), fromPar_set _ _ _ _ (toPar_len Γ).symm, fromPar_toPar]
    simp only [wipeG_cons, wipeG_nil]
    by_cases hij : i = j
    · subst hij; simp [hi]
    · rw [List.set_set, List.set_comm _ _ hij, hj, List.set_set, hi]) xs acc (fun d hd => ⟨by simp, k d hd⟩) hz
/-- enumerate as a map -/
theorem enumD_map : ∀ (n : Nat) (ds : List D), enumD n ds = (ds.zipIdx n).map fun x => .tup [.int (x.2 : Int), x.1]
  | _, [] => rfl
  | n, d :: ds => by
    rw [List.zipIdx_cons, List.map_cons, ← enumD_map (n + 1) ds]
    rfl
/-! texts of numbers, joined and split -/
theorem tl_num_small {i : Int} (h0 : 0 ≤ i) (h1 : i < 10) : TL.tl (num i) = [48 + i.toNat] := by
  obtain ⟨n, rfl⟩ := Int.eq_ofNat_of_zero_le h0
  unfold num
  rw [TL.tl_num, TL.numL_lt (by omega)]
  rfl
theorem split_nums {y : Str} {s : Nat} {S : List Nat} (ey : TL.tl y = s :: S) (hk : y.cps.all (· < 256) = true) (hs : s < 48) {cs : List Int} (hne : cs ≠ []) (h : ∀ c ∈ cs, 0 ≤ c ∧ c < 10) : Txt.split (Txt.join y (cs.map num)) y = cs.map num :=
  TL.split_join ey hk (by simpa using hne) fun p hp => by
    obtain ⟨c, hc, rfl⟩ := List.mem_map.mp hp
    obtain ⟨a, b⟩ := h c hc
    rw [tl_num_small a b]
    simp
    omega
theorem strL_map : ∀ zs : List Str, strL (zs.map D.str) = some zs
  | [] => rfl
  | z :: zs => by
    show (strL (zs.map D.str)).map (z :: ·) = _
    rw [strL_map zs]
    rfl
@[simp] theorem join_str {a : Str} {zs : List Str} (h : (zs.map (·.length)).sum + zs.length * a.length ≤ 16777216) : joinD (.str a) [.lst (zs.map D.str)] = some (.dat (.str (Txt.join a zs))) := by
  unfold joinD
  dsimp only
  rw [strL_map]
  exact if_pos h
@[simp] theorem split_str {a b : Str} (h : (b.length == 0) = false) (h2 : a.length + 2 ≤ sizeLine) : splitD (.str a) [.str b] = some (.own (.lst ((Txt.split a b).map D.str))) := if_pos ⟨h, h2⟩
theorem tl_len (z : Str) : z.length = (TL.tl z).length := by
  show z.cps.size = _
  rw [← Array.length_toList]
theorem num_len1 {i : Int} (h0 : 0 ≤ i) (h1 : i < 10) : (num i).length = 1 := by
  rw [tl_len, tl_num_small h0 h1]
  rfl
theorem joinL_len {s : Nat} : ∀ (ls : List (List Nat)), (∀ l ∈ ls, l.length = 1) → (TL.joinL [s] ls).length + 1 ≤ 2 * ls.length + 1
  | [], _ => by simp [TL.joinL]
  | [l], h => by
    have := h l (by simp)
    show l.length + 1 ≤ _
    simp
    omega
  | p :: q :: r, h => by
    have a := h p (by simp)
    have b := joinL_len (s := s) (q :: r) fun l hl => h l (List.mem_cons_of_mem _ hl)
    show (p ++ ([s] ++ TL.joinL [s] (q :: r))).length + 1 ≤ _
    simp only [List.length_append, List.length_cons, List.length_nil] at b ⊢
    omega
theorem join_nums_len {y : Str} {s : Nat} (ey : TL.tl y = [s]) {cs : List Int} (h : ∀ c ∈ cs, 0 ≤ c ∧ c < 10) : (Txt.join y (cs.map num)).length ≤ 2 * cs.length := by
  rw [tl_len, TL.join_eq, TL.tl_join, ey, List.map_map]
  have := joinL_len (s := s) (cs.map (TL.tl ∘ num)) fun l hl => by
    obtain ⟨c, hc, rfl⟩ := List.mem_map.mp hl
    obtain ⟨a, b⟩ := h c hc
    show (TL.tl (num c)).length = 1
    rw [tl_num_small a b]
    rfl
  simp at this
  simpa using this
theorem sum_lens1 : ∀ {cs : List Int}, (∀ c ∈ cs, 0 ≤ c ∧ c < 10) → ((cs.map num).map (·.length)).sum = cs.length
  | [], _ => rfl
  | c :: cs, h => by
    obtain ⟨a, b⟩ := h c (by simp)
    have := sum_lens1 (cs := cs) fun x hx => h x (List.mem_cons_of_mem _ hx)
    simp only [List.map_cons, List.sum_cons, this, num_len1 a b, List.length_cons]
    omega
/-! operators on numbers and rows of them -/
@[simp] theorem eqO_intd {us : List Str} {tt : List Ck} {T : EqT} {neg : Bool} (i j : Int) : eqO us tt T neg (.int i) (.int j) = some (.dat (.bl (neg ^^ decide (i = j)))) := eqO_int i j
theorem eqO_lints {us : List Str} {tt : List Ck} {T : EqT} {neg : Bool} (c e : List Int) : eqO us tt T neg (.lst (c.map .int)) (.lst (e.map .int)) = some (.dat (.bl (neg ^^ (c == e)))) := by
  have h : eqO us tt T neg (.lst (c.map .int)) (.lst (e.map .int)) = (opEqP (.lst (c.map .int)) (.lst (e.map .int))).map fun b => .dat (.bl (neg ^^ b)) := rfl
  have h2 : opEqP (.lst (c.map .int)) (.lst (e.map .int)) = some (c == e) := by
    simp [opEqP, pyE, pyEs_int, SeqAt.shaped, PyData.canLay0, lay_int, PyData.depth, dep_int, PyData.eqv, eqv_int]
  rw [h, h2]
  rfl
theorem eqO_lnil {us : List Str} {tt : List Ck} {T : EqT} {neg : Bool} (c : List Int) : eqO us tt T neg (.lst (c.map .int)) (.lst []) = some (.dat (.bl (neg ^^ (c == [])))) := eqO_lints c []
theorem flat_ints (cs : List Int) : (cs.map D.int).all flatD = true := by
  induction cs with
  | nil => rfl
  | cons a c ih => simp [flatD, ih]
theorem any_ints (x : Int) (cs : List Int) : ((cs.map D.int).any fun y => eqF y (.int x)) = decide (x ∈ cs) := by
  induction cs with
  | nil => rfl
  | cons a c ih =>
    rw [List.map_cons, List.any_cons, ih]
    show (a == x || _) = _
    by_cases h : x = a
    · subst h; simp
    · have : ¬ a = x := fun e => h e.symm
      simp [h, this]
theorem any_non (cs : List Int) : ((cs.map D.int).any fun y => eqF y .non) = false := by
  induction cs with
  | nil => rfl
  | cons a c ih =>
    rw [List.map_cons, List.any_cons, ih]
    rfl
@[simp] theorem in_ints {neg : Bool} (x : Int) (cs : List Int) : inD neg (.int x) (.lst (cs.map .int)) = some (.dat (.bl (neg ^^ decide (x ∈ cs)))) := by
  unfold inD
  simp only [flat_ints, any_ints]
  rfl
@[simp] theorem in_intsT {neg : Bool} (x : Int) (cs : List Int) : inD neg (.int x) (.tup (cs.map .int)) = some (.dat (.bl (neg ^^ decide (x ∈ cs)))) := by
  unfold inD
  simp only [flat_ints, any_ints]
  rfl
@[simp] theorem in_non {neg : Bool} (cs : List Int) : inD neg .non (.lst (cs.map .int)) = some (.dat (.bl neg)) := by
  unfold inD
  simp only [flat_ints, any_non, Bool.xor_false]
  rfl
@[simp] theorem in_non0 {neg : Bool} : inD neg .non (.lst []) = some (.dat (.bl neg)) := in_non []
/-- slices -/
theorem cut_nat {xs : List D} {lo hi : Nat} (h : hi ≤ xs.length) (h1 : lo ≤ hi) : Dl.cutD xs (some (lo : Int)) (some (hi : Int)) = (xs.drop lo).take (hi - lo) := by
  unfold Dl.cutD
  rw [HT.sIx_nat, HT.sIx_nat, Nat.min_eq_left h, Nat.min_eq_left (Nat.le_trans h1 h)]
theorem cut_map {α : Type} (f : α → D) (xs : List α) {lo hi : Nat} (h : hi ≤ xs.length) (h1 : lo ≤ hi) : Dl.cutD (xs.map f) (some (lo : Int)) (some (hi : Int)) = ((xs.drop lo).take (hi - lo)).map f := by
  rw [cut_nat (by simpa using h) h1, ← List.map_drop, ← List.map_take]
/-! loops by what they keep -/
theorem forL_inv {gt : D → Gm → Option Gm} {b : SM} {N : Nat} (I : Nat → Gm → Prop) : ∀ (ds : List D) (n : Nat) (Γ : Gm), (∀ d ∈ ds, ∀ n Γ, n < N → I n Γ → ∃ Γ1 Γ2, gt d Γ = some Γ1 ∧ b Γ1 = .nx Γ2 ∧ I (n + 1) Γ2) → n + ds.length ≤ N → I n Γ → ∃ Γ', forL gt b ds Γ = .nx Γ' ∧ I (n + ds.length) Γ'
  | [], n, Γ, _, _, h => ⟨Γ, rfl, h⟩
  | d :: ds, n, Γ, k, hn, h => by
    simp only [List.length_cons] at hn
    obtain ⟨Γ1, Γ2, e1, e2, h2⟩ := k d (List.mem_cons_self ..) n Γ (by omega) h
    obtain ⟨Γ', e3, h3⟩ := forL_inv I ds (n + 1) Γ2 (fun x hx => k x (List.mem_cons_of_mem _ hx)) (by omega) h2
    refine ⟨Γ', by simp [forL_cons, e1, e2, e3], ?_⟩
    rw [List.length_cons, show n + (ds.length + 1) = n + 1 + ds.length by omega]
    exact h3
theorem rngD_zip {α : Type} (a : Int) (l : List α) : rngD a l.length = (l.zipIdx 0).map fun x => .int (a + (x.2 : Int)) := by
  have h := List.zipIdx_map_snd 0 l
  unfold rngD
  rw [List.range_eq_range', ← h, List.map_map]
  rfl
theorem rngD_mem {a : Int} {n : Nat} {d : D} (h : d ∈ rngD a n) : ∃ i : Nat, i < n ∧ d = .int (a + i) := by
  unfold rngD at h
  obtain ⟨i, hi, rfl⟩ := List.mem_map.mp h
  exact ⟨i, List.mem_range.mp hi, rfl⟩
theorem atI_nat {α : Type} {xs : List α} {i : Nat} {x : α} (h : xs[i]? = some x) : L2.atI xs (i : Int) = some x := by
  have hl : i < xs.length := (List.getElem?_eq_some_iff.mp h).1
  unfold L2.atI ixN
  rw [if_pos (by omega), if_pos (by omega)]
  simpa using h
theorem atI_neg {α : Type} {xs : List α} {i : Nat} {x : α} (h : xs[i]? = some x) : L2.atI xs (-(xs.length : Int) + (i : Int)) = some x := by
  have hl : i < xs.length := (List.getElem?_eq_some_iff.mp h).1
  unfold L2.atI ixN
  rw [if_neg (by omega), if_pos (by omega)]
  have e : (-(xs.length : Int) + (i : Int) + (xs.length : Int)).toNat = i := by omega
  simp only [Option.bind_some]
  rw [e]
  exact h
/-- every cut by its place, from the end and from the start -/
theorem atI_two {xs : List Int} {i : Nat} {x : Int} (h : (xs ++ xs)[i]? = some x) : L2.atI (xs.map D.int) (-(xs.length : Int) + (i : Int)) = some (.int x) := by
  by_cases hi : i < xs.length
  · rw [List.getElem?_append_left hi] at h
    have h2 : (xs.map D.int)[i]? = some (.int x) := by simp [h]
    have := atI_neg h2
    rwa [List.length_map] at this
  · rw [List.getElem?_append_right (by omega)] at h
    have h2 : (xs.map D.int)[i - xs.length]? = some (.int x) := by simp [h]
    have := atI_nat h2
    rwa [show ((i - xs.length : Nat) : Int) = -(xs.length : Int) + (i : Int) by omega] at this
theorem joinL_mem {S : List Nat} {x : Nat} : ∀ (ls : List (List Nat)), x ∈ TL.joinL S ls → x ∈ S ∨ ∃ l ∈ ls, x ∈ l
  | [], h => by simp [TL.joinL] at h
  | [l], h => .inr ⟨l, by simp, h⟩
  | p :: q :: r, h => by
    have h' : x ∈ p ++ (S ++ TL.joinL S (q :: r)) := h
    simp only [List.mem_append] at h'
    rcases h' with h' | h' | h'
    · exact .inr ⟨p, by simp, h'⟩
    · exact .inl h'
    · rcases joinL_mem _ h' with h2 | ⟨l, h2, h3⟩
      · exact .inl h2
      · exact .inr ⟨l, List.mem_cons_of_mem _ h2, h3⟩
theorem join_nums_signs {y : Str} {s : Nat} (ey : TL.tl y = [s]) (hs : s < 256) {cs : List Int} (h : ∀ c ∈ cs, 0 ≤ c ∧ c < 10) : ∀ x ∈ TL.tl (Txt.join y (cs.map num)), x < 256 := fun x hx => by
  rw [TL.join_eq, TL.tl_join, ey] at hx
  rcases joinL_mem _ hx with hx | ⟨l, hl, hx⟩
  · simp at hx
    omega
  · simp only [List.map_map, List.mem_map, Function.comp_apply] at hl
    obtain ⟨c, hc, rfl⟩ := hl
    obtain ⟨a, b⟩ := h c hc
    rw [tl_num_small a b] at hx
    simp at hx
    omega
theorem rp_txt {z : Str} {n : Nat} (h : ∀ x ∈ TL.tl z, x < 256) (hl : z.length ≤ n) : Rp 0 n (.str z) := rp_str (fun c hc => Nat.lt_of_lt_of_le (h c hc) (by decide)) hl
end Dl
end
section
set_option maxHeartbeats 4000000
set_option autoImplicit false
/-! try: body, except x as n: suite, where the suite may keep the exception. -/
namespace L2
open PySem PySem.Spec PyProof.Rows Tx
section
variable {X : Cx} {pins : List (Addr × Obj)} {σ : St} {H : Hp} {s : Shared} {a : Addr}
/-- an object that is there already becomes known -/
theorem Inv.adopt {o : HO} {ob : Obj} (I : Inv X pins σ H s) (hn : H a = none) (hx : X.ex = []) (h0 : X.s_0.heap.get? a = none) (he : s.heap.get? a = some ob) (hc : ∀ v, ob.data ≠ .cell v) (nL : a ≠ X.env.locals) (np : ∀ p ∈ X.pn ++ pins, p.1 ≠ a)
    (new : ObjOk X.prog X.w (upd H a o) s.heap a o) : Inv X pins σ (upd H a o) s where
  ok := I.ok
  os := I.os
  bare := I.bare
  base := {
    keep := I.base.keep
    slot := I.base.slot
    free := fun b o' q n hb => by
      rw [upd_ne fun z => by rw [z, h0] at q; cases q]
      exact I.base.free b o' q n hb
    there := I.base.there
    tups := fun b xs q => by
      have w := I.base.tups b xs q
      rw [upd_ne (ne_of_none w hn)]
      exact w
    frzs := fun b o' u q => by
      have w := I.base.frzs b o' u q
      rw [upd_ne (ne_of_none w hn)]
      exact w
    tbls := fun b ps q => by
      obtain ⟨m, w⟩ := I.base.tbls b ps q
      exact ⟨m, by rw [upd_ne (ne_of_none w hn)]; exact w⟩ }
  loc := I.loc
  cell := I.cell
  free := by
    rw [upd_ne (Ne.symm nL)]
    exact I.free
  freeC := fun x c q => by
    rw [upd_ne fun z => by
      obtain ⟨v, o', w1, w2⟩ := I.cell x c q
      rw [z, he] at w1
      cases w1
      exact hc v w2]
    exact I.freeC x c q
  pin := fun p hp => by
    obtain ⟨w1, w2, w3⟩ := I.pin p hp
    exact ⟨w1, by rw [upd_ne (np p hp)]; exact w2, w3⟩
  hok := I.hok.laidN (fun _ _ z => z) hn new
  len := I.len
/-- into a suite, nothing pinned -/
theorem Inv.suiteN (I : Inv X pins σ H s) (a : Addr) : Inv (X.suite a (X.pn ++ pins)) [] σ H s where
  ok := I.ok.suite _ _
  os := I.os
  bare := I.bare
  base := I.base
  loc := I.loc
  cell := I.cell
  free := I.free
  freeC := I.freeC
  pin := fun p hp => I.pin p (by simpa using hp)
  hok := I.hok
  len := I.len
theorem Inv.ofSuiteN {pn' : List (Addr × Obj)} (I : Inv (X.suite a (X.pn ++ pins)) pn' σ H s) (ok : X.Ok) : Inv X pins σ H s where
  ok := ok
  os := I.os
  bare := I.bare
  base := I.base
  loc := I.loc
  cell := I.cell
  free := I.free
  freeC := I.freeC
  pin := fun p hp => I.pin p (List.mem_append_left _ hp)
  hok := I.hok
  len := I.len
end
/-- the suite's own ends: the clause's name is gone behind it -/
def gone (i : Nat) (D : Ends) : Ends := { nx := fun σ' H' => D.nx (σ'.set i none) H', rt := D.rt, bk := fun σ' H' => D.bk (σ'.set i none) H', ct := fun σ' H' => D.ct (σ'.set i none) H' }
/-- what the clause wishes: every exception of the body is one of its own, and is known in the suite -/
def wKeep (K : PySem.W.Frag) (c : Value) (i n : Nat) (ts : TS) (D : Ends) : WX := fun cls d σ H =>
  PySem.W.exmOne K cls c = some true ∧ ∃ C, cls = .ref C ∧ ∀ a, H a = none → σ.length = n → ts (gone i D) (σ.set i (some (.ref a))) (upd H a (exg a C d))
section
variable {X : Cx} {x n : Str} {c : Value} {i : Nat} {body suite : List Stmt} {b₀ : Stmt} {np pos pos' : Pos} {tb : WX → TS} {ts : TS}
theorem ps_try_keep (hs : X.stack = X.env :: X.outer) (hf : X.env.frame = some X.env.locals) (hN : X.N.Nodup) (hi : X.N[i]? = some n) (hln : X.env.kindOf n = some .local) (hx : X.ex = []) (hc : Names X x c)
    (hb : ∀ (W : WX) (pn : List (Addr × Obj)) (xe : Value → Shared → Prop), Takes (X.tr pn xe) W → PassesOwn (model X.prog X.w) X.A X.env xe → PSs (X.tr pn xe) body (tb W))
    (hsu : ∀ (a : Addr) (pn : List (Addr × Obj)), PSs (X.suite a pn) (b₀ :: suite) ts) :
    PS X (.Try body [.ExceptHandler (some (.Name x np)) (some n) (b₀ :: suite) pos'] [] [] pos) (fun D σ H => tb (wKeep X.K c i X.N.length ts D) D σ H) := by
  constructor
  intro pins s σ H D I h
  have ok := I.ok
  have frames : X.A.frames = some (X.env :: X.outer) := ok.frames.trans (congrArg some hs)
  apply wpAny_Try_except
  have T := hb (wKeep X.K c i X.N.length ts D) (X.pn ++ pins) (fun e s₁ => wpAny (model X.prog X.w) X.A (noteFrame e X.env) (fun _ s₂ => wpAny (model X.prog X.w) X.A (setFlight e none) (fun _ s₃ =>
    wpAny (model X.prog X.w) X.A (handleBy e X.env [.ExceptHandler (some (.Name x np)) (some n) (b₀ :: suite) pos']) (SP X pins D) X.xe s₃) X.xe s₂) X.xe s₁) ?take PassesOwn.looking
  · apply wpAny_mono (T.run [] s σ H D (I.toTry _) h)
    · intro f s1 e1
      cases f with
      | next => obtain ⟨σ1, H1, J1, q1⟩ := e1; exact wpAny_execs_nil ⟨σ1, H1, J1.ofTry ok, q1⟩
      | brk => obtain ⟨σ1, H1, J1, q1⟩ := e1; exact ⟨σ1, H1, J1.ofTry ok, q1⟩
      | cont => obtain ⟨σ1, H1, J1, q1⟩ := e1; exact ⟨σ1, H1, J1.ofTry ok, q1⟩
      | ret u => obtain ⟨v1, σ1, H1, J1, r1, q1⟩ := e1; exact ⟨v1, σ1, H1, J1.ofTry ok, r1, q1⟩
    · intro e s1 e1
      exact e1
  case take =>
    intro u s' xx
    obtain ⟨a, B, sI, pins', σ1, H1, cls, d, rfl, J0, ground, up0, sky, na, os, ag, yes, C, rfl, k⟩ := xx
    have J := J0.ofTry ok
    have sky : Sky B (X.env :: X.outer) a (Zc (.ref C) d) X.env.locals s'.heap := by rw [← hs]; exact sky
    have ground : ∀ b o, sI.heap.get? b = some o → b ∉ frs (X.env :: X.outer) → B.get? b = some o := by rw [← hs]; exact ground
    show wpAny (model X.prog X.w) X.A (noteFrame (.ref a) X.env) _ _ _
    refine Sky.land Zc.steady frames hf sky fun h1 f1 up1 => ?_
    have off : ∀ {h : Heap}, HandSPX.FlyingZ B (X.env :: X.outer) a (Zc (.ref C) d) h → a ∉ frs (X.env :: X.outer) := fun {h} fl hm => by
      obtain ⟨oe, vs, e, _, dd⟩ := fl.there
      obtain ⟨_, o', e', nf⟩ := fl.2.2.1.mem hm
      rw [e] at e'
      cases e'
      exact nf _ dd
    have aI : sI.heap.get? a = none := by
      cases q : sI.heap.get? a with
      | none => rfl
      | some o =>
        have w := ground a o q (off f1)
        rw [f1.2.1] at w
        cases w
    have a0 : X.s_0.heap.get? a = none := by
      cases q : X.s_0.heap.get? a with
      | none => rfl
      | some o =>
        obtain ⟨o', w⟩ := J.base.there a o q (by rw [hx]; simp)
        rw [aI] at w
        cases w
    have aL : a ≠ X.env.locals := fun z => off f1 (List.mem_filterMap.mpr ⟨X.env, List.mem_cons_self .., by rw [hf, z]⟩)
    have aP : ∀ p ∈ X.pn ++ pins, p.1 ≠ a := fun p hp z => by
      have w := (J.pin p hp).1
      rw [z, aI] at w
      cases w
    have land : ∀ {h : Heap}, HandSPX.FlyingZ B (X.env :: X.outer) a (Zc (.ref C) d) h → sI.heap.UpToSlots h → Inv X pins σ1 H1 { s' with heap := h } ∧ Inv X pins σ1 (upd H1 a (exg a C d)) { s' with heap := h } := fun {h} fl up => by
      have A : Inv X pins σ1 H1 { s' with heap := h } := J.landed (s' := { s' with heap := h }) (fun b o q m => ground b o q (by rw [← hs]; exact m)) fl.1 up os ag
      obtain ⟨oe, vs, e, z, dd⟩ := fl.there
      exact ⟨A, A.adopt na hx a0 e (fun v w => by rw [dd] at w; cases w) aL aP (exg_ok e z.1 z.2 dd)⟩
    have I1 := (land f1 (up0.trans up1)).1
    obtain ⟨oe, vs, e1, z1, d1⟩ := f1.there
    refine wpAny_handleBy_cons (codeAny_handlers_test ?_) (by intro q; cases q)
    have cl : PySem.W.Looks (model X.prog X.w) h1 (typeOf (.ref a)) (.ref C) := fun A Q E s k q => wpAny_typeOf_ref (k _ _ e1) (by rw [z1.1]; exact q)
    have mt := PySem.W.exm_one (M := model X.prog X.w) I1.kIn cl yes
    have nm : ∀ {Q E : Value → Shared → Prop}, Q c { s' with heap := h1 } → wpAny (model X.prog X.w) (X.A.mark (some (.ref a))) (eval (.Name x np) X.env) Q E { s' with heap := h1 } := fun {Q E} q => by
      obtain ⟨hg, hd, hm | ⟨hm, hv, hn⟩⟩ := hc
      · exact ld_glob (X := X.suite a (X.pn ++ pins)) (I1.suiteN a) hg hm q hd
      · exact ld_blt (X := X.suite a (X.pn ++ pins)) (I1.suiteN a) hg hm hv q hn hd
    refine nm (mt.here (codeAny_handlers_suite_as (HandSPX.lands_againZ f1 fun h2 f2 up2 => ?_)))
    have I2 := (land f2 ((up0.trans up1).trans up2)).2.suiteN a
    refine store_ok (X := X.suite a (X.pn ++ pins)) (v := .ref a) I2 hN hi (.inl hln) rfl (fun s3 I3 => ?_) (.inr hln)
    have leave : ∀ {σ4 : St} {H4 : Hp} {s4 : Shared} {Q : Shared → Prop}, Inv (X.suite a (X.pn ++ pins)) [] σ4 H4 s4 → (∀ s5, Inv X pins (σ4.set i none) H4 s5 → Q s5) →
        wpAny (model X.prog X.w) X.A (do bindName X.env n .none; unbindBehindTheSuite X.env n pos') (fun _ s5 => Q s5) X.xe s4 := fun {σ4 H4 s4 Q} w q => gone_ok (w.ofSuiteN ok) hN hi hln q
    refine wpAny_mono ((hsu a (X.pn ++ pins)).run [] s3 _ _ (gone i D) I3 (k a na J.len)) (fun f s4 e4 => ?_) fun _ _ z => False.elim z
    cases f with
    | next => obtain ⟨σ4, H4, I4, q4⟩ := e4; exact leave I4 fun s5 I5 => ⟨_, _, I5, q4⟩
    | brk => obtain ⟨σ4, H4, I4, q4⟩ := e4; exact leave I4 fun s5 I5 => ⟨_, _, I5, q4⟩
    | cont => obtain ⟨σ4, H4, I4, q4⟩ := e4; exact leave I4 fun s5 I5 => ⟨_, _, I5, q4⟩
    | ret u => obtain ⟨v4, σ4, H4, I4, r4, q4⟩ := e4; exact leave I4 fun s5 I5 => ⟨_, _, _, I5, r4, q4⟩
end
end L2
end
section
set_option maxHeartbeats 4000000
set_option autoImplicit false
/-! A lambda, handed to a def that calls it under a try and keeps the error. -/
namespace Dl
open PySem PySem.Spec PyProof.Rows L2 Tx He
open Evl (Ex)
section
variable [Tabl]
/-- the slots of a fresh frame, of which some are data -/
def slotsH (n : Nat) : List (Nat × D) → Gm
  | [] => List.replicate n none
  | (i, d) :: l => (slotsH n l).set i (some (.dat d))
theorem slotsH_len (n : Nat) : ∀ l : List (Nat × D), (slotsH n l).length = n
  | [] => List.length_replicate ..
  | (i, d) :: l => by unfold slotsH; rw [List.length_set]; exact slotsH_len n l
theorem slotsH_at {n i : Nat} {s : Sl} : ∀ {l : List (Nat × D)}, (slotsH n l)[i]? = some (some s) → ∃ d, s = .dat d ∧ (i, d) ∈ l
  | [], h => by
    unfold slotsH at h
    rw [List.getElem?_replicate] at h
    split at h <;> cases h
  | (j, d) :: l, h => by
    unfold slotsH at h
    by_cases e : j = i
    · subst e
      rw [List.getElem?_set] at h
      simp only [if_true] at h
      split at h
      · cases h
        exact ⟨d, rfl, List.mem_cons_self ..⟩
      · cases h
    · rw [List.getElem?_set_ne e] at h
      obtain ⟨d', a, b⟩ := slotsH_at h
      exact ⟨d', a, List.mem_cons_of_mem _ b⟩
section
variable {K : PySem.W.Frag} {B : Bs} {M M' : List Addr} {Γ Γ' : Gm} {σ σ' : L2.St} {H H' : Hp} {v : V} {r : Sl}
/-- a fresh frame over what is known -/
theorem SR.frame (S : SR K B M Γ σ H) {n : Nat} {l : List (Nat × D)} (hl : σ'.length = n) (h : ∀ (i : Nat) (d : D), (i, d) ∈ l → ∃ v, σ'[i]? = some (some v) ∧ Rep K (hid H M) v d) : SR K ⟨M, fun _ => none, H⟩ M (slotsH n l) σ' H where
  dat := fun i d z => by
    obtain ⟨d', a, b⟩ := slotsH_at z
    cases a
    exact h i d b
  own := fun i d z => by
    obtain ⟨d', a, b⟩ := slotsH_at z
    cases a
  par := fun i d z => by
    obtain ⟨d', a, b⟩ := slotsH_at z
    cases a
  sub := fun a z => z
  dom := S.dom
  frm := fun a o z _ _ => z
  len := by rw [slotsH_len, hl]
  bok := ⟨fun i j p z => (nomatch z), fun i p z => (nomatch z), S.dom⟩
  tab := S.tab
/-- what such a frame returns -/
theorem RetS.new (h : RetS K ⟨M, fun _ => none, H⟩ Γ' σ' H' v r) : New K M H H' v r := by
  cases r with
  | par d => exact h.elim
  | dat d =>
    obtain ⟨M', S, rv⟩ := h
    exact ⟨⟨fun a o e t => S.frm a o e t fun _ z => (nomatch z), fun _ => S.tab⟩, rv.mono (hid_sub S.sub)⟩
  | own d =>
    obtain ⟨M', p, e, hp, h0, S, o⟩ := h
    refine ⟨p, e, h0, ⟨fun a o e t => S.frm a o e t fun _ z => (nomatch z), fun _ => S.tab⟩, o.mono (hid_sub fun a z => ?_) fun _ z => z⟩
    rcases List.mem_cons.mp z with z | z
    · subst z; exact hp
    · exact S.sub a z
/-- without the things held alone -/
def noOwn : Option Sl → Option Sl
  | some (.own _) => none
  | s => s
theorem SR.noOwn (S : SR K B M Γ σ H) : SR K B B.M0 (Γ.map Dl.noOwn) σ H := by
  have get : ∀ (i : Nat) (s : Sl), (Γ.map Dl.noOwn)[i]? = some (some s) → Γ[i]? = some (some s) ∧ ∀ d, s ≠ .own d := fun i s h => by
    rw [List.getElem?_map] at h
    cases e : Γ[i]? with
    | none => rw [e] at h; cases h
    | some o =>
      rw [e] at h
      cases o with
      | none => cases h
      | some s0 =>
        cases s0 with
        | dat d => cases h; exact ⟨rfl, fun _ z => by cases z⟩
        | par d => cases h; exact ⟨rfl, fun _ z => by cases z⟩
        | own d => cases h
  exact {
    dat := fun i d h => let ⟨v, a, b⟩ := S.dat i d (get i _ h).1; ⟨v, a, b.mono (hid_sub S.sub)⟩
    own := fun i d h => absurd rfl ((get i _ h).2 d)
    par := fun i d h => let ⟨p, a, b, c⟩ := S.par i d (get i _ h).1; ⟨p, a, b, c.mono (hid_sub S.sub) fun _ z => z⟩
    sub := fun a z => z
    dom := fun a z => S.dom a (S.sub a z)
    frm := S.frm
    len := by rw [List.length_map]; exact S.len
    bok := S.bok
    tab := S.tab }
/-- some things held alone become data -/
def thawL : List Nat → Gm → Gm
  | [], Γ => Γ
  | i :: l, Γ => thawL l (match Γ[i]? with
    | some (some (.own d)) => Γ.set i (some (.dat d))
    | _ => Γ)
theorem SR.thawL {l : List Nat} : ∀ {M : List Addr} {Γ : Gm}, SR K B M Γ σ H → ∃ M', SR K B M' (Dl.thawL l Γ) σ H ∧ Ex (hid H M) (hid H M') := by
  induction l with
  | nil => exact fun S => ⟨_, S, Evl.Ex.refl _⟩
  | cons i l ih =>
    intro M Γ S
    unfold Dl.thawL
    split
    · rename_i d e
      obtain ⟨M1, p, _, S1, e1, _⟩ := S.thaw e
      obtain ⟨M2, S2, e2⟩ := ih S1
      exact ⟨M2, S2, e1.trans e2⟩
    · exact ih S
end
/-- how the rest ends -/
def endR : Fl → Option Sl
  | .nx _ => some (.dat .non)
  | .rt (.dat d) _ => some (.dat d)
  | .rt (.own d) _ => some (.own d)
  | _ => none
/-- the slots behind a call that returned -/
def okD (ic : Nat) (iF : Option Nat) (d : D) : List (Nat × D) := match iF with
  | some i => [(i, d), (ic, .non)]
  | none => [(ic, .non)]
/-- try: found = ask() / except x as e: caught = e, and the rest -/
def dHeard (hX : List Str) (th : List Nat) (n ic : Nat) (iF : Option Nat) (gr : SM) (fE : EM Sl) : EM Sl := fun Γ => match fE (toPar (thawL th Γ)) with
  | .ok r Γ' => (match endR (gr (slotsH n (okD ic iF r.d))) with
    | some x => .ok x (fromPar (thawL th Γ) (Γ'.map noOwn))
    | none => .no)
  | .exc c fs Γ' => if hX.contains c = true then (match endR (gr (slotsH n [(ic, .err c fs)])) with
    | some x => .ok x (fromPar (thawL th Γ) (Γ'.map noOwn))
    | none => .no) else .no
  | .no => .no
/-- the ends of a def -/
abbrev dQ (Q : VK) : Ends := { nx := fun _ H' => Q .non H', rt := Q }
def okS (ic : Nat) (iF : Option Nat) (v : V) (σ : L2.St) : Prop := σ[ic]? = some (some .non) ∧ ∀ i, iF = some i → σ[i]? = some (some v)
/-- what such a def makes of the lambda that it calls -/
def TTh (K : PySem.W.Frag) (CS : Addr) (n ic : Nat) (iF : Option Nat) (gr : SM) : (XK → Hp → VK → Prop) → Hp → VK → Prop := fun tl H Q => ∀ H2, Ex H H2 → ∃ (E : XK) (Qv : VK),
  (∀ cls d H', E cls d H' → PySem.W.exmOne K cls (.ref CS) = some true ∧ ∃ C, cls = .ref C ∧ ∀ (a : Addr) (σ' : L2.St), H' a = none → σ'.length = n → σ'[ic]? = some (some (.ref a)) → tS K wBot gr (dQ Q) σ' (upd H' a (exg a C d))) ∧
  (∀ v H', Qv v H' → ∀ σ' : L2.St, σ'.length = n → okS ic iF v σ' → tS K wBot gr (dQ Q) σ' H') ∧ tl E H2 Qv
section
variable {K : PySem.W.Frag} {B : Bs} {M M' : List Addr} {Γ Γ' : Gm} {σ σ' : L2.St} {H H' : Hp} {v : V} {r : Sl}
theorem rest_run {gr : SM} {Q : VK} {n : Nat} {l : List (Nat × D)} {x : Sl} (S : SR K B M Γ σ H) (hl : σ'.length = n) (h : ∀ (i : Nat) (d : D), (i, d) ∈ l → ∃ v, σ'[i]? = some (some v) ∧ Rep K (hid H M) v d)
    (he : endR (gr (slotsH n l)) = some x) (hq : ∀ v H', New K M H H' v x → Q v H') : tS K wBot gr (dQ Q) σ' H := by
  refine ⟨_, M, _, S.frame hl h, ?_⟩
  cases e : gr (slotsH n l) with
  | nx g =>
    rw [e] at he
    cases he
    exact fun σ2 H2 M2 S2 _ => hq _ _ (RetS.new (σ' := σ2) (Γ' := g) ⟨M2, S2, .non⟩)
  | rt r g =>
    rw [e] at he
    cases r with
    | dat d => cases he; exact fun v σ2 H2 z => hq _ _ z.new
    | own d => cases he; exact fun v σ2 H2 z => hq _ _ z.new
    | par d => cases he
  | bk g => rw [e] at he; cases he
  | ct g => rw [e] at he; cases he
  | exc c fs g => rw [e] at he; cases he
  | no => rw [e] at he; cases he
theorem q_heard {W : WX} {CS : Addr} {hX : List Str} {th : List Nat} {n ic : Nat} {iF : Option Nat} {gr : SM} {fE : EM Sl} {Q : VK} (hk : ∀ c ∈ hX, PySem.W.exmOne K (.ref (ga K c)) (.ref CS) = some true)
    (h : tD K W (dHeard hX th n ic iF gr fE) σ H Q) : LamX.tLam Tabl.T (TTh K CS n ic iF gr) (fun E => tD K (wx E) fE) σ H Q := by
  obtain ⟨B, M, Γ, S, h⟩ := h
  refine ⟨S.tab, fun H1 eN tN H2 e2 => ?_⟩
  have S2 : SR K B M Γ σ H2 := (S.extT ⟨eN, fun _ => tN⟩).ext e2
  have x2 : Ex (hid H M) (hid H2 M) := (hid_monoT ⟨eN, fun _ => tN⟩).trans (hid_mono e2)
  obtain ⟨M3, S3, e3⟩ := S2.thawL (l := th)
  have S4 := S3.into
  -- the caller's state behind the lambda
  have bk : ∀ {H' : Hp} {M' : List Addr} {Γ' : Gm}, SR K (inB M3 (thawL th Γ) σ H2) M' Γ' σ H' → SR K B M3 (fromPar (thawL th Γ) (Γ'.map noOwn)) σ H' ∧ Ex (hid H M) (hid H' M3) ∧ ∀ a ∈ M3, a ∈ M' := fun {H' M' Γ'} q => by
    have q0 := q.noOwn
    refine ⟨S3.back q0 (by rw [q0.len]; exact S3.len.symm), (x2.trans e3).trans (hid_kept fun a o na e t => q.frm a o e t fun i z => ?_), q.sub⟩
    obtain ⟨a1, a2⟩ := paH_some z
    obtain ⟨p, d, b1, b2, _⟩ := held_at S3 a1
    rw [a2] at b1
    cases b1
    exact na b2
  unfold dHeard at h
  cases hf : fE (toPar (thawL th Γ)) with
  | no => rw [hf] at h; exact h.elim
  | ok r Γ1 =>
    rw [hf] at h
    dsimp only at h
    cases he : endR (gr (slotsH n (okD ic iF r.d))) with
    | none => rw [he] at h; exact h.elim
    | some x =>
      rw [he] at h
      dsimp only at h
      refine ⟨fun _ _ _ => False, fun v H' => ∃ M', SR K (inB M3 (thawL th Γ) σ H2) M' Γ1 σ H' ∧ Rep K (hid H' M') v r.d, fun _ _ _ z => z.elim, ?_, ⟨_, M3, _, S4, ?_⟩⟩
      · rintro v H' ⟨M', q, rv⟩ σ' hl ⟨k1, k2⟩
        obtain ⟨b1, b2, b3⟩ := bk q
        refine rest_run b1 hl (fun i d hi => ?_) he fun v H'' nw => h v H'' M3 (nw.val b1 b2)
        unfold okD at hi
        split at hi
        · rename_i j _
          rcases List.mem_cons.mp hi with hi | hi
          · cases hi
            exact ⟨v, k2 i rfl, rv.mono (hid_sub b3)⟩
          · rcases List.mem_cons.mp hi with hi | hi
            · cases hi
              exact ⟨.non, k1, .non⟩
            · cases hi
        · rcases List.mem_cons.mp hi with hi | hi
          · cases hi
            exact ⟨.non, k1, .non⟩
          · cases hi
      · rw [hf]
        exact fun v H' M' q => ⟨M', q.dat.1, q.dat.2.2⟩
  | exc c fs Γ1 =>
    rw [hf] at h
    dsimp only at h
    by_cases hc : hX.contains c = true
    · rw [if_pos hc] at h
      cases he : endR (gr (slotsH n [(ic, .err c fs)])) with
      | none => rw [he] at h; exact h.elim
      | some x =>
        rw [he] at h
        dsimp only at h
        refine ⟨fun cls d H' => cls = .ref (ga K c) ∧ ∃ M', SR K (inB M3 (thawL th Γ) σ H2) M' Γ1 σ H' ∧ ExcAt K (hid H' M') d fs, fun _ _ => False, ?_, fun _ _ z => z.elim, ⟨_, M3, _, S4, ?_⟩⟩
        · rintro cls d H' ⟨rfl, M', q, ea⟩
          refine ⟨hk c (by simpa using hc), _, rfl, fun a σ' ha hl hi => ?_⟩
          obtain ⟨b1, b2, b3⟩ := bk q
          have exA : Ex H' (upd H' a (exg a (ga K c) d)) := Evl.Ex.new ha
          have b1' := b1.ext exA
          refine rest_run b1' hl (fun i d' hd => ?_) he fun v H'' nw => h v H'' M3 (nw.val b1' (b2.trans (hid_mono exA)))
          rcases List.mem_cons.mp hd with hd | hd
          · cases hd
            refine ⟨_, hi, ?_⟩
            have at_ : hid (upd H' a (exg a (ga K c) d)) M3 a = some (exg a (ga K c) d) := hid_at (b1.not_in (.of ha)) upd_same (fun _ z => by cases z)
            have ea' := ea.mono ((hid_sub (H := H') b3).trans (hid_mono exA))
            rcases ea' with ⟨rfl, rfl⟩ | ⟨y, vs, rfl, hx, rf⟩
            · exact .err (vs := []) (.inr (.inr ⟨none, at_, .inl ⟨rfl, rfl⟩⟩)) .nil
            · exact .err (.inr (.inr ⟨some y, at_, .inr ⟨y, rfl, hx⟩⟩)) rf
          · cases hd
        · rw [hf]
          exact fun d H' M' q ea => ⟨rfl, M', q, ea⟩
    · rw [if_neg hc] at h
      exact h.elim
end
end
end Dl
end
section
set_option maxHeartbeats 4000000
set_option autoImplicit false
/-! The two forms of the def that calls what it got under a try. -/
namespace Dl
open PySem PySem.Spec PyProof.Rows L2 Tx He
open Evl (Ex)
theorem PE.weak {X : Cx} {e : Expr} {t : TE} (h : PE X e t) : PE X e (fun σ H Q => ∃ Q0 : VK, (∀ v H', Q0 v H' → Q v H') ∧ t σ H Q0) := ⟨fun pins s σ H Q I ⟨Q0, k, q⟩ =>
  thn (h.run pins s σ H Q0 I q) fun v s1 ⟨x, H1, I1, r1, q1⟩ => ⟨x, H1, I1, r1, k _ _ q1⟩⟩
section
variable [Tabl]
variable {X : Cx} {Ng : List Str} {x a q e cN fN kN : Str} {sg : Scope} {g CS : Addr} {cdg : Value} {ic iF ie : Nat} {rest : List Stmt} {gr : SM} {k1 k2 j1 j2 : Nat} {p1 p2 p3 p4 p5 p6 p7 p8 p9 q1 q2 q3 q4 q5 q6 q7 q8 : Pos}
abbrev hCx (X : Cx) (Ng : List Str) (x : Str) (sg : Scope) (g : Addr) (cdg : Value) (s : Shared) (H : Hp) : Cx := (cxOf C8.CX0 X.prog X.w X.K X.mg X.base Ng x sg g cdg X.A X.stack s H C8.E0).nox
theorem set_at {σ : L2.St} {i : Nat} {v : Option V} (h : i < σ.length) : (σ.set i v)[i]? = some v := List.getElem?_set_self h
theorem start_len {N : List Str} {vs : List V} (h : vs.length ≤ N.length) : (L2.start N vs).length = N.length := by
  unfold L2.start
  simp
  omega
theorem heard_suite {Y : Cx} (hN : Y.N.Nodup) (hc : Y.N[ic]? = some cN) (he : Y.N[ie]? = some e) (lc : Y.env.scope.names.lookup cN = some .local) (le : Y.env.scope.names.lookup e = some .local) (hd : (e == ("__debug__" : Str)) = false) (hcd : (e == ("__classdict__" : Str)) = false)
    (hs : swapsWith (.Name e q2) (some (.Name cN q1)) q3.line Y.env = pure false) :
    PSs Y [.Assign [.Name cN q1] (.Name e q2) q3] (tAsg (tVar ie) (gName ic)) := pss_one (ps_set hN hc (.inl lc) (pe_var (i := ie) he (.inl le) hd hcd) hs (.inr lc))
/-- caught, found = None, None; try: found = ask() / except x as e: caught = e; and the rest -/
theorem heard_A (hNd : Ng.Nodup) (ha : Ng[0]? = some a) (hc : Ng[ic]? = some cN) (hf : Ng[iF]? = some fN) (he : Ng[ie]? = some e) (lc : sg.names.lookup cN = some .local) (lf : sg.names.lookup fN = some .local) (le : sg.names.lookup e = some .local)
    (ncf : ic ≠ iF) (nce : ic ≠ ie) (c0 : ic ≠ 0) (f0 : iF ≠ 0) (hd : (e == ("__debug__" : Str)) = false) (hcd : (e == ("__classdict__" : Str)) = false)
    (hK : ∀ (s : Shared) (H : Hp), Names (hCx X Ng x sg g cdg s H) kN (.ref CS)) (hle : ∀ (s : Shared) (H : Hp), (hCx X Ng x sg g cdg s H).env.kindOf e = some .local)
    (hrest : ∀ (s : Shared) (H : Hp), PSs (hCx X Ng x sg g cdg s H) rest (tS X.K wBot gr))
    (h1 : ∀ (s : Shared) (H : Hp), swapsWithSole [.Tuple [.Name cN p1, .Name fN p2] k1 p3] (.Tuple [.Constant .none j1 p4, .Constant .none j2 p5] k2 p6) p7.line (hCx X Ng x sg g cdg s H).env = pure false := by intro _ _; rfl)
    (h2 : ∀ (s : Shared) (H : Hp), swappedStores [.Tuple [.Name cN p1, .Name fN p2] k1 p3] (.Tuple [.Constant .none j1 p4, .Constant .none j2 p5] k2 p6) (hCx X Ng x sg g cdg s H).env = pure none := by intro _ _; rfl)
    (h3 : ∀ (s : Shared) (H : Hp), swapsWith (.Call (.Name a q4) [] [] q5) (some (.Name fN q6)) q7.line (hCx X Ng x sg g cdg s H).env = pure false := by intro _ _; rfl)
    (h4 : ∀ (b : Addr) (pn : List (Addr × Obj)) (s : Shared) (H : Hp), swapsWith (.Name e q2) (some (.Name cN q1)) q3.line ((hCx X Ng x sg g cdg s H).suite b pn).env = pure false := by intro _ _ _ _; rfl) :
    LamX.GivesTo X Ng x sg g cdg (.Assign [.Tuple [.Name cN p1, .Name fN p2] k1 p3] (.Tuple [.Constant .none j1 p4, .Constant .none j2 p5] k2 p6) p7 ::
      .Try [.Assign [.Name fN q6] (.Call (.Name a q4) [] [] q5) q7] [.ExceptHandler (some (.Name kN p8)) (some e) [.Assign [.Name cN q1] (.Name e q2) q3] p9] [] [] q8 :: rest) a q (TTh X.K CS Ng.length ic (some iF) gr) := by
  intro f c' s H Q tl act hco h
  have lenC : ic < Ng.length := (List.getElem?_eq_some_iff.mp hc).1
  have lenF : iF < Ng.length := (List.getElem?_eq_some_iff.mp hf).1
  have lenE : ie < Ng.length := (List.getElem?_eq_some_iff.mp he).1
  have len0 : 0 < Ng.length := (List.getElem?_eq_some_iff.mp ha).1
  have st0 : (L2.start Ng [V.ref f])[0]? = some (some (V.ref f)) := rfl
  have stl : (L2.start Ng [V.ref f]).length = Ng.length := start_len (by simp; omega)
  refine ⟨_, pss_cons (ps_asg (pe_tup (pa_cons pe_non (pa_cons pe_non pa_nil))) (pg_tup rfl (pgs_cons (pg_name hNd hc (.inl lc) (.inr lc)) (pgs_cons (pg_name hNd hf (.inl lf) (.inr lf)) pgs_nil))) (h1 s H) (h2 s H))
    (pss_cons (ps_try_keep (X := hCx X Ng x sg g cdg s H) (c := .ref CS) (i := ie) rfl rfl hNd he (hle s H) rfl (hK s H)
      (tb := fun W D σ H => ∃ (E : XK) (Qv : VK), (∀ cls d σ' H', E cls d H' → W cls d σ' H') ∧ σ[0]? = some (some (.ref f)) ∧ H c' = some (LamX.CodeO c' q) ∧ tl E H Qv ∧ ∀ v H', Qv v H' → D.nx (σ.set iF (some v)) H')
      (fun W pn xe tk _ => ?_) (fun b pn => heard_suite (Y := (hCx X Ng x sg g cdg s H).suite b pn) hNd hc he lc le hd hcd (h4 b pn s H))) (hrest s H)), ?_⟩
  · refine ⟨fun pins s' σ H' D I h' => ?_⟩
    obtain ⟨E, Qv, hW, e1, e2, e3, e4⟩ := h'
    have hp := PE.weak (act W pn xe E q4 q5 tk hW)
    exact (pss_one (ps_set (pos := q7) (pos' := q6) hNd hf (.inl lf) hp (h3 s H) (.inr lf))).run pins s' σ H' D I ⟨Qv, e4, e1, e2, e3⟩
  · refine ⟨by decide, fun p hp => ⟨p, [.non, .non], rfl, .inl (.inl upd_same), rfl, .non, [.non], rfl, .non, [], rfl, rfl, ?_⟩⟩
    obtain ⟨E, Qv, k1, k2, k3⟩ := h _ (Evl.Ex.new (o := .tup [.non, .non]) hp)
    have g0 : (((L2.start Ng [V.ref f]).set ic (some .non)).set iF (some .non))[0]? = some (some (V.ref f)) := by
      rw [List.getElem?_set_ne f0, List.getElem?_set_ne c0]; exact st0
    refine ⟨E, Qv, fun cls d σ' H' z => ?_, g0, Evl.Ex.new hp _ _ hco, k3, fun v H' z => ?_⟩
    · obtain ⟨y1, C, y2, y3⟩ := k1 cls d H' z
      refine ⟨y1, C, y2, fun b hb hl => ?_⟩
      have hl : σ'.length = Ng.length := hl
      refine ⟨.ref b, set_at (by rw [hl]; exact lenE), ?_⟩
      refine y3 b _ hb (by simp [hl]) ?_
      rw [List.getElem?_set_ne (Ne.symm nce)]
      exact set_at (by simp [hl, lenC])
    · refine k2 v H' z _ (by simp [stl]) ⟨?_, fun i hi => ?_⟩
      · rw [List.getElem?_set_ne (Ne.symm ncf), List.getElem?_set_ne (Ne.symm ncf)]
        exact set_at (by rw [stl]; exact lenC)
      · cases hi
        exact set_at (by simp [stl, lenF])
/-- caught = None; try: ask() / except x as e: caught = e; and the rest -/
theorem heard_B (hNd : Ng.Nodup) (ha : Ng[0]? = some a) (hc : Ng[ic]? = some cN) (he : Ng[ie]? = some e) (lc : sg.names.lookup cN = some .local) (le : sg.names.lookup e = some .local)
    (nce : ic ≠ ie) (c0 : ic ≠ 0) (hd : (e == ("__debug__" : Str)) = false) (hcd : (e == ("__classdict__" : Str)) = false)
    (hK : ∀ (s : Shared) (H : Hp), Names (hCx X Ng x sg g cdg s H) kN (.ref CS)) (hle : ∀ (s : Shared) (H : Hp), (hCx X Ng x sg g cdg s H).env.kindOf e = some .local)
    (hrest : ∀ (s : Shared) (H : Hp), PSs (hCx X Ng x sg g cdg s H) rest (tS X.K wBot gr))
    (h1 : ∀ (s : Shared) (H : Hp), swapsWith (.Constant .none j1 p4) (some (.Name cN p1)) p7.line (hCx X Ng x sg g cdg s H).env = pure false := by intro _ _; rfl)
    (h3 : ∀ (s : Shared) (H : Hp), swapsWith (.Call (.Name a q4) [] [] q5) none q7.line (hCx X Ng x sg g cdg s H).env = pure false := by intro _ _; rfl)
    (h4 : ∀ (b : Addr) (pn : List (Addr × Obj)) (s : Shared) (H : Hp), swapsWith (.Name e q2) (some (.Name cN q1)) q3.line ((hCx X Ng x sg g cdg s H).suite b pn).env = pure false := by intro _ _ _ _; rfl) :
    LamX.GivesTo X Ng x sg g cdg (.Assign [.Name cN p1] (.Constant .none j1 p4) p7 ::
      .Try [.Expr (.Call (.Name a q4) [] [] q5) q7] [.ExceptHandler (some (.Name kN p8)) (some e) [.Assign [.Name cN q1] (.Name e q2) q3] p9] [] [] q8 :: rest) a q (TTh X.K CS Ng.length ic none gr) := by
  intro f c' s H Q tl act hco h
  have lenC : ic < Ng.length := (List.getElem?_eq_some_iff.mp hc).1
  have lenE : ie < Ng.length := (List.getElem?_eq_some_iff.mp he).1
  have len0 : 0 < Ng.length := (List.getElem?_eq_some_iff.mp ha).1
  have st0 : (L2.start Ng [V.ref f])[0]? = some (some (V.ref f)) := rfl
  have stl : (L2.start Ng [V.ref f]).length = Ng.length := start_len (by simp; omega)
  refine ⟨_, pss_cons (ps_set hNd hc (.inl lc) pe_non (h1 s H) (.inr lc))
    (pss_cons (ps_try_keep (X := hCx X Ng x sg g cdg s H) (c := .ref CS) (i := ie) rfl rfl hNd he (hle s H) rfl (hK s H)
      (tb := fun W D σ H => ∃ (E : XK) (Qv : VK), (∀ cls d σ' H', E cls d H' → W cls d σ' H') ∧ σ[0]? = some (some (.ref f)) ∧ H c' = some (LamX.CodeO c' q) ∧ tl E H Qv ∧ ∀ v H', Qv v H' → D.nx σ H')
      (fun W pn xe tk _ => ?_) (fun b pn => heard_suite (Y := (hCx X Ng x sg g cdg s H).suite b pn) hNd hc he lc le hd hcd (h4 b pn s H))) (hrest s H)), ?_⟩
  · refine ⟨fun pins s' σ H' D I h' => ?_⟩
    obtain ⟨E, Qv, hW, e1, e2, e3, e4⟩ := h'
    have hp := PE.weak (act W pn xe E q4 q5 tk hW)
    exact (pss_one (ps_expr (pos := q7) hp (h3 s H))).run pins s' σ H' D I ⟨Qv, e4, e1, e2, e3⟩
  · obtain ⟨E, Qv, k1, k2, k3⟩ := h _ (Evl.Ex.refl _)
    have g0 : ((L2.start Ng [V.ref f]).set ic (some .non))[0]? = some (some (V.ref f)) := by
      rw [List.getElem?_set_ne c0]; exact st0
    refine ⟨E, Qv, fun cls d σ' H' z => ?_, g0, hco, k3, fun v H' z => ?_⟩
    · obtain ⟨y1, C, y2, y3⟩ := k1 cls d H' z
      refine ⟨y1, C, y2, fun b hb hl => ?_⟩
      have hl : σ'.length = Ng.length := hl
      refine ⟨.ref b, set_at (by rw [hl]; exact lenE), ?_⟩
      refine y3 b _ hb (by simp [hl]) ?_
      rw [List.getElem?_set_ne (Ne.symm nce)]
      exact set_at (by simp [hl, lenC])
    · exact k2 v H' z _ (by simp [stl]) ⟨set_at (by rw [stl]; exact lenC), fun i hi => by cases hi⟩
end
end Dl
end
section
set_option maxHeartbeats 4000000
set_option autoImplicit false
/-! The lambda as an argument; what the head tells of the tables. -/
namespace Dl
open PySem PySem.Spec PyProof.Rows L2 Tx He Hx
open Evl (Ex)
/-- the table of a def's code object -/
def tabA (K : PySem.W.Frag) (f : Addr) : Addr := tabOf K (cdA K f)
section
variable [Tabl]
/-- what is known of the defs that make lambdas, and of their lambdas' names -/
structure TzK (K : PySem.W.Frag) (mg : Str → Option Value) (base : Heap) (l : List (Addr × Str)) : Prop where
  mem : ∀ p ∈ l, (tabA K p.1, p.2) ∈ Tabl.T
  one : ∀ p ∈ l, ∀ z ∈ Tabl.T, z.1 = tabA K p.1 → z.2 = p.2
  tb : ∀ p ∈ l, LamX.TabB base mg (cdA K p.1) (tabA K p.1)
theorem de_lam {X : Cx} {W : WX} {x a : Str} {g CS fm : Addr} {fdg : FuncData} {pg params : Arguments} {bg : List Stmt} {sg scope : Scope} {Ng : List Str} {ic k : Nat} {iF : Option Nat} {gr : SM} {fE : EM Sl} {hX : List Str} {th : List Nat} {body : Expr} {p lpos pos : Pos} {l : List (Addr × Str)}
    (F : FunD X.K x x pg bg sg [] [] g fdg) (hb : Binds X.K fdg [a] []) (hg : Gl X x) (hm : X.mg x = some (.ref g)) (Sg : FnScope Ng [a] sg) (hNg : Ng[0]? = some a) (hva : Vis sg a)
    (hG : ∀ cdg : Value, LamX.GivesTo X Ng x sg g cdg bg a (X.env.qual ++ "<lambda>") (TTh X.K CS Ng.length ic iF gr)) (hk : ∀ c ∈ hX, PySem.W.exmOne X.K (.ref (ga X.K c)) (.ref CS) = some true)
    (Z : TzK X.K X.mg X.base l) (hl : (fm, X.env.qual ++ "<lambda>") ∈ l) (hcode : X.env.code = .ref (cdA X.K fm)) (hr : Room (k + 2) X.A) (L : LamX.LamS X.env.scope scope)
    (hbody : ∀ (A : Around) (outer : List Env) (s : Shared) (H : Hp) (E : XK) (f c' : Addr), Room k (A.deeper (LamX.lamEnv X scope s.heap.objs.size f c')) → Takes (LamX.lamCx X A outer s H E scope f c') (wx E) → PE (LamX.lamCx X A outer s H E scope f c') body (tD X.K (wx E) fE))
    (hdef : defaultsOf params X.env = ([], []) := by rfl) (hbind : ∀ (q : Str) (cl : List (Str × Addr)) (pm cv ctv : Value), bindArgs (PySem.W.kla_fn "<lambda>" q params body scope cl pm cv ctv) ⟨[], []⟩ = pure [] := by intro _ _ _ _ _; rfl)
    (hdb : (x == ("__debug__" : Str)) = false := by decide) (hd : (a == ("__debug__" : Str)) = false := by decide) (hcd : (a == ("__classdict__" : Str)) = false := by decide) :
    PE X (.Call (.Name x p) [.Lambda params body scope lpos] [] pos) (tD X.K W (dHeard hX th Ng.length ic iF gr fE)) := by
  obtain ⟨oc, od, dV, kV, doc, pm, an, cdv, ct, osl, rfl, lk, hcg, _, _⟩ := F.ex
  refine PE.imp (LamX.pe_lamcall (T := Tabl.T) (t := fun E => tD X.K (wx E) fE) hg hm F.kp lk hcg hb Sg hNg hva (hG cdv) (Z.tb _ hl) hcode (Z.mem _ hl) (Z.one _ hl) hr L hdef hbind
    (fun A outer s H E f c' hr' => hbody A outer s H E f c' hr' (takes_of rfl rfl rfl rfl)) hdb hd hcd) fun σ H Q q => q_heard hk q
end
end Dl
end
section
set_option maxHeartbeats 4000000
set_option autoImplicit false
/-! Errors as values: isinstance, fields. -/
namespace Dl
open PySem PySem.Spec PyProof.Rows L2 Tx He Hx
open Evl (Ex)
/-- isinstance(e, C), e a caught error -/
def isiE (es : List Str) (T : IsT) : List D → Option Sl
  | [.err c _, k] => if es.contains c = true then (match clK k with
    | some ck => (T.lookup (.o c, ck)).map fun b => .dat (.bl b)
    | none => none) else none
  | _ => none
/-- e.f, e a caught error -/
def fldE (es : List Str) (f : Str) : D → Option Sl
  | .err c fs => if es.contains c = true then (fs.lookup f).map Sl.dat else none
  | _ => none
def dFldE (es : List Str) (f : Str) (fo : EM Sl) : EM Sl := dUn (fldE es f) fo
section
variable [Tabl]
variable {X : Cx} {o : Expr} {fo : EM Sl} {pos : Pos}
theorem cd_isiE {es : List Str} {T : IsT} (hc : ∀ c ∈ es, ExcC X.K (ga X.K c)) (hT : IsTOk X.K T) : ClD X (.builtin "isinstance") (isiE es T) := by
  intro pins s σ H xs us Q I r ⟨M, ds, rr, dm, rs, hg, k⟩
  unfold isiE at hg
  split at hg
  · rename_i c fs kd
    cases rs with
    | cons r1 rs =>
      cases rs with
      | cons r2 rs =>
        cases rs
        by_cases he : es.contains c = true
        · rw [if_pos he] at hg
          cases h2 : clK kd with
          | none => rw [h2] at hg; cases hg
          | some ck =>
            rw [h2] at hg
            dsimp only at hg
            cases h3 : T.lookup (.o c, ck) with
            | none => rw [h3] at hg; cases hg
            | some b =>
              rw [h3] at hg
              cases hg
              cases r1 with
              | err ha rf =>
                refine call_isErr pins s σ H _ us Q I r ⟨_, _, _, _, _, b, rfl, Err.mono hid_ex ha, hc c (List.contains_iff_mem.mp he), ?_, isT_get hT h3, k _ _ nd_bl⟩
                intro u hu
                exact (clK_at r2 h2).eq hu
        · rw [if_neg he] at hg
          cases hg
  · cases hg
theorem de_fldE {W : WX} {n : Str} {es : List Str} (he : PE X o (tD X.K W fo)) (hc : ∀ c ∈ es, ExcC X.K (ga X.K c) ∧ NoAttr X.K (ga X.K c) n) (hb : attributeBase o n X.env (eval o X.env) = eval o X.env := by rfl) : PE X (.Attribute o n pos) (tD X.K W (dFldE es n fo)) := by
  refine PE.imp (pe_errF he hb) fun σ H Q h => ?_
  have q := q_un h
  obtain ⟨B, M, Γ, S, q⟩ := q
  refine ⟨B, M, Γ, S, ?_⟩
  cases eg : fo Γ with
  | no => rw [eg] at q; exact q
  | exc c fs g => rw [eg] at q; exact q
  | ok o Γ1 =>
    rw [eg] at q
    intro x H1 M1 vl
    obtain ⟨M2, d, r, dm, rx, hg, kk⟩ := q x H1 M1 vl
    cases rx with
    | err ha rf =>
      rename_i a c vs ds
      dsimp only [fldE] at hg
      by_cases hcs : es.contains c = true
      · rw [if_pos hcs] at hg
        cases hl : ds.lookup n with
        | none => rw [hl] at hg; cases hg
        | some d1 =>
          rw [hl] at hg
          cases hg
          obtain ⟨y, y1, y2⟩ := rf.get hl
          obtain ⟨h1, h2⟩ := hc c (List.contains_iff_mem.mp hcs)
          exact ⟨a, _, vs, y, rfl, Err.mono hid_ex ha, h1, h2, y1, kk y H1 ⟨ExT.refl _, y2⟩⟩
      · rw [if_neg hcs] at hg
        cases hg
    | _ => cases hg
end
end Dl
end
section
set_option maxHeartbeats 4000000
set_option autoImplicit false
/-! int(text). -/
namespace Dl
open PySem PySem.Spec PyProof.Rows L2 Tx He Hx
open Evl (Ex)
/-- int(x): a text of a number, too -/
def intSD : List D → Option Sl
  | [.str z] => if z.length ≤ 640 then (PySem.intText? z).map fun n => .dat (.int n) else none
  | l => intD l
section
variable [Tabl]
variable {X : Cx}
theorem cd_intS : ClD X (.type "int") intSD := by
  intro pins s σ H xs us Q I r ⟨M, ds, rr, dm, rs, hg, k⟩
  unfold intSD at hg
  split at hg
  · rename_i z
    cases rs with
    | cons r1 rs =>
      cases rs
      cases r1
      by_cases h : z.length ≤ 640
      · rw [if_pos h] at hg
        cases e : PySem.intText? z with
        | none => rw [e] at hg; cases hg
        | some n =>
          rw [e] at hg
          cases hg
          exact call_int_str pins s σ H _ us Q I r ⟨z, n, rfl, e, h, k _ _ nd_int⟩
      · rw [if_neg h] at hg
        cases hg
  · exact cd_int pins s σ H _ us Q I r ⟨M, ds, rr, dm, rs, hg, k⟩
end
end Dl
end
section
set_option maxHeartbeats 4000000
set_option autoImplicit false
/-! a, b = x, y and a, b, c = x, y, z with plain names. -/
namespace Dl
open PySem PySem.Spec PyProof.Rows L2 Tx He Hx
open Evl (Ex)
def dPar2 (i j : Nat) (fa fb : EM Sl) : SM := dThen fa fun x => dThen fb fun y Γ => .nx ((Γ.set i (some (.dat x.d))).set j (some (.dat y.d)))
def dPar3 (i j l : Nat) (fa fb fc : EM Sl) : SM := dThen fa fun x => dThen fb fun y => dThen fc fun z Γ => .nx (((Γ.set i (some (.dat x.d))).set j (some (.dat y.d))).set l (some (.dat z.d)))
section
variable [Tabl]
variable {X : Cx} {W : WX} {a b c : Expr} {fa fb fc : EM Sl} {x y z : Str} {px py pz pt pos : Pos} {kt k2 : Nat} {pt2 : Pos} {i j l : Nat}
theorem ds_par2 (hc : X.calm = true) (hN : X.N.Nodup) (hi : X.N[i]? = some x) (hj : X.N[j]? = some y) (hij : i ≠ j)
    (hx : X.env.scope.names.lookup x = some .local) (hy : X.env.scope.names.lookup y = some .local) (ha : PE X a (tD X.K W fa)) (hb : PE X b (tD X.K W fb))
    (hw : swappedStores [.Tuple [.Name x px, .Name y py] kt pt] (.Tuple [a, b] k2 pt2) X.env = pure (some [x, y]) := by rfl)
    (hs : swapsWithSole [.Tuple [.Name x px, .Name y py] kt pt] (.Tuple [a, b] k2 pt2) pos.line X.env = pure false := by rfl)
    (s1 : starEach [a, b] X.env = (false, eval a X.env) :: starEach [b] X.env := by rfl) (s2 : starEach [b] X.env = (false, eval b X.env) :: starEach [] X.env := by rfl) :
    PS X (.Assign [.Tuple [.Name x px, .Name y py] kt pt] (.Tuple [a, b] k2 pt2) pos) (tS X.K W (dPar2 i j fa fb)) := by
  refine PS.imp (ps_par hc hN hi hj hij hx hy (pa_cons ha (pa_cons hb pa_nil s2) s1) hw hs) fun D σ H ⟨B, M, Γ, S, h⟩ => ?_
  refine fin_then S h (fun _ _ _ _ _ z => z σ) fun v Γ1 v1 H1 M1 ev q z => ?_
  refine fin_then (W := W) (D := D) q.dat.1 (z.mono q.dat.2.1) (fun _ _ _ _ _ z => z σ) fun u Γ2 u1 H2 M2 eu q2 z => ?_
  refine ⟨v1, u1, rfl, ?_⟩
  have S3 := (q2.dat.1.setDat i (q.dat.2.2.mono q2.dat.2.1)).setDat j q2.dat.2.2
  exact z _ H2 M2 S3 q2.dat.2.1
theorem ds_par3 (hc : X.calm = true) (hN : X.N.Nodup) (hi : X.N[i]? = some x) (hj : X.N[j]? = some y) (hl : X.N[l]? = some z) (hij : i ≠ j) (hil : i ≠ l) (hjl : j ≠ l)
    (hx : X.env.scope.names.lookup x = some .local) (hy : X.env.scope.names.lookup y = some .local) (hz : X.env.scope.names.lookup z = some .local) (ha : PE X a (tD X.K W fa)) (hb : PE X b (tD X.K W fb)) (hcc : PE X c (tD X.K W fc))
    (hw : swappedStores [.Tuple [.Name x px, .Name y py, .Name z pz] kt pt] (.Tuple [a, b, c] k2 pt2) X.env = pure (some [x, y, z]) := by rfl)
    (hs : swapsWithSole [.Tuple [.Name x px, .Name y py, .Name z pz] kt pt] (.Tuple [a, b, c] k2 pt2) pos.line X.env = pure false := by rfl)
    (s1 : starEach [a, b, c] X.env = (false, eval a X.env) :: starEach [b, c] X.env := by rfl) (s2 : starEach [b, c] X.env = (false, eval b X.env) :: starEach [c] X.env := by rfl) (s3 : starEach [c] X.env = (false, eval c X.env) :: starEach [] X.env := by rfl) :
    PS X (.Assign [.Tuple [.Name x px, .Name y py, .Name z pz] kt pt] (.Tuple [a, b, c] k2 pt2) pos) (tS X.K W (dPar3 i j l fa fb fc)) := by
  refine PS.imp (ps_par3 hc hN hi hj hl hij hil hjl hx hy hz (pa_cons ha (pa_cons hb (pa_cons hcc pa_nil s3) s2) s1) hw hs) fun D σ H ⟨B, M, Γ, S, h⟩ => ?_
  refine fin_then S h (fun _ _ _ _ _ z => z σ) fun v Γ1 v1 H1 M1 ev q z => ?_
  refine fin_then (W := W) (D := D) q.dat.1 (z.mono q.dat.2.1) (fun _ _ _ _ _ z => z σ) fun u Γ2 u1 H2 M2 eu q2 z => ?_
  refine fin_then (W := W) (D := D) q2.dat.1 (z.mono q2.dat.2.1) (fun _ _ _ _ _ z => z σ) fun t Γ3 t1 H3 M3 et q3 z => ?_
  refine ⟨v1, u1, t1, rfl, ?_⟩
  have S3 := ((q3.dat.1.setDat i ((q.dat.2.2.mono q2.dat.2.1).mono q3.dat.2.1)).setDat j (q2.dat.2.2.mono q3.dat.2.1)).setDat l q3.dat.2.2
  exact z _ H3 M3 S3 q3.dat.2.1
end
end Dl
end
section
set_option maxHeartbeats 4000000
set_option autoImplicit false
/-! Evaluation lemmas of the lambda. -/
namespace Dl
open PySem PySem.Spec PyProof.Rows L2 Tx He
section
variable {Γ Γ1 : Gm} {d : D} {i j n ic : Nat} {l th : List Nat} {hX : List Str} {iF : Option Nat} {gr : SM} {fE : EM Sl} {c : Str} {fs : List (Str × D)} {r : Sl}
def thR (o : Option (Option Sl)) (i : Nat) (Γ : Gm) : Gm := match o with
  | some (some (.own d)) => Γ.set i (some (.dat d))
  | _ => Γ
@[simp] theorem thR_own : thR (some (some (.own d))) i Γ = Γ.set i (some (.dat d)) := rfl
@[simp] theorem thR_dat : thR (some (some (.dat d))) i Γ = Γ := rfl
@[simp] theorem thR_par : thR (some (some (.par d))) i Γ = Γ := rfl
@[simp] theorem thR_none : thR (some none) i Γ = Γ := rfl
@[simp] theorem thawL_nil : thawL [] Γ = Γ := rfl
@[simp] theorem thawL_cons : thawL (i :: l) Γ = thawL l (thR Γ[i]? i Γ) := rfl
@[simp] theorem noOwn_dat : noOwn (some (.dat d)) = some (.dat d) := rfl
@[simp] theorem noOwn_par : noOwn (some (.par d)) = some (.par d) := rfl
@[simp] theorem noOwn_own : noOwn (some (.own d)) = none := rfl
@[simp] theorem noOwn_none : noOwn none = none := rfl
@[simp] theorem frP_no {s : Option Sl} : frP s (noOwn (toP s)) = s := by
  cases s with
  | none => rfl
  | some s => cases s <;> rfl
def hdR (hX : List Str) (n ic : Nat) (iF : Option Nat) (gr : SM) (Γ0 : Gm) : Rs Sl → Rs Sl
  | .ok r Γ' => rO (endR (gr (slotsH n (okD ic iF r.d)))) (fromPar Γ0 (Γ'.map noOwn))
  | .exc c fs Γ' => if hX.contains c = true then rO (endR (gr (slotsH n [(ic, .err c fs)]))) (fromPar Γ0 (Γ'.map noOwn)) else .no
  | .no => .no
@[simp] theorem hdR_ok : hdR hX n ic iF gr Γ1 (.ok r Γ) = rO (endR (gr (slotsH n (okD ic iF r.d)))) (fromPar Γ1 (Γ.map noOwn)) := rfl
def hasX (l : List Str) (c : Str) : Prop := l.contains c = true
@[simp] theorem hdR_exc (h : hasX hX c) : hdR hX n ic iF gr Γ1 (.exc c fs Γ) = rO (endR (gr (slotsH n [(ic, .err c fs)]))) (fromPar Γ1 (Γ.map noOwn)) := if_pos h
@[simp] theorem okD_some : okD ic (some i) d = [(i, d), (ic, .non)] := rfl
@[simp] theorem okD_none : okD ic none d = [(ic, .non)] := rfl
@[simp] theorem ev_heard : dHeard hX th n ic iF gr fE Γ = hdR hX n ic iF gr (thawL th Γ) (fE (toPar (thawL th Γ))) := by
  unfold dHeard hdR
  cases fE (toPar (thawL th Γ)) with
  | no => rfl
  | ok r Γ' => dsimp only; cases endR (gr (slotsH n (okD ic iF r.d))) <;> rfl
  | exc c fs Γ' => dsimp only; split <;> first | rfl | (cases endR (gr (slotsH n [(ic, .err c fs)])) <;> rfl)
@[simp] theorem ev_par2 {fa fb : EM Sl} : dPar2 i j fa fb Γ = (fa Γ).fl fun x Γ1 => (fb Γ1).fl fun y Γ2 => .nx ((Γ2.set i (some (.dat x.d))).set j (some (.dat y.d))) := by
  unfold dPar2 dThen Rs.fl
  cases fa Γ <;> rfl
end
section
variable {neg : Bool} {b : Bool} {i : Int} {z c : Str} {xs : List D} {ks : List (L2.Key × D)} {fs : List (Str × D)}
@[simp] theorem isN_non : isND neg .non .non = some (.dat (.bl (!neg))) := by cases neg <;> rfl
@[simp] theorem isN_bl : isND neg (.bl b) .non = some (.dat (.bl neg)) := by cases neg <;> rfl
@[simp] theorem isN_int : isND neg (.int i) .non = some (.dat (.bl neg)) := by cases neg <;> rfl
@[simp] theorem isN_str : isND neg (.str z) .non = some (.dat (.bl neg)) := by cases neg <;> rfl
@[simp] theorem isN_tup : isND neg (.tup xs) .non = some (.dat (.bl neg)) := by cases neg <;> rfl
@[simp] theorem isN_lst : isND neg (.lst xs) .non = some (.dat (.bl neg)) := by cases neg <;> rfl
@[simp] theorem isN_dct : isND neg (.dct ks) .non = some (.dat (.bl neg)) := by cases neg <;> rfl
@[simp] theorem isN_ins : isND neg (.ins c fs) .non = some (.dat (.bl neg)) := by cases neg <;> rfl
@[simp] theorem isN_err : isND neg (.err c fs) .non = some (.dat (.bl neg)) := by cases neg <;> rfl
end
end Dl
end
section
set_option maxHeartbeats 4000000
set_option autoImplicit false
/-! all, any of a row of truths; min, max of two numbers; an own call by keywords. -/
namespace Tx
open PySem PySem.Spec PyProof.Rows L2 StX
section
variable {X : Cx} {CX : CXT} {k : Nat} {C g : Addr} {fd : FuncData} {ps ks : List Str} {sp : Sp} {E : XK} {fe : Expr} {kws : List Keyword} {tf : TE} {tk : TA} {pos : Pos} {gz : List Value → List Value → List Value} {gV : List V → List V → List V}
theorem callO_kws {M : Model} {A : Around} {E' : Value → Shared → Prop} {s : Shared} {a : Addr} {env : Env} {Q : Value → Shared → Prop} (hall : (backToKw pos (keywordEach kws env)).all (·.1.isSome) = true)
    (hpl : ((backTo pos (starEach [] env)).any (·.1) || (backToKw pos (keywordEach kws env)).any (·.1.isNone)) = false)
    (h : wpAny M A (evalAll ((backToKw pos (keywordEach kws env)).map (·.2))) (fun ws s₁ => (∃ C ox od, PySem.W.InstAt s₁.heap a ox C od ∧ ox.data = .plain) ∧ wpAny M A (call (.ref a) ([] ++ []) (((backToKw pos (keywordEach kws env)).filterMap (·.1)).zip ws)) Q E' s₁) E' s) :
    wpAny M A (callWith pos (.ref a) [] (backTo pos (starEach [] env)) (backToKw pos (keywordEach kws env))) Q E' s := by
  have he := evalArgs_kw2_nil (f := Value.ref a) (Q := fun z s₁ => (∃ C ox od, PySem.W.InstAt s₁.heap a ox C od ∧ ox.data = .plain) ∧ wpAny M A (call (.ref a) ([] ++ z.pos) z.kw) Q E' s₁) hall h
  unfold callWith
  refine wpAny_bind (wpAny_holding (wpAny_mono he (fun z s₁ q => wpAny_bind (wpAny_standAt ?_)) fun _ _ y => y))
  obtain ⟨⟨C, ox, od, J, hd⟩, q⟩ := q
  have L := PySem.W.kco_keeper (M := M) J hd
  simp only [hpl]
  refine wpAny_bind (L.here ?_)
  exact wpAny_bind (wpAny_mono (wpAny_operateT q) (fun r s₂ hr => wpAny_bind (wpAny_holding (wpAny_point (wpAny_pure hr)))) fun _ _ y => y)
def tCallOK (X : Cx) (C : Addr) (nk : Nat) (sp : Sp) (gV : List V → List V → List V) (E : XK) (tf : TE) (tk : TA) : TE := fun σ H Q => tf σ H fun x H1 => ∃ a, x = .ref a ∧ tk σ H1 fun zs H2 => zs.length = nk ∧ InsC X H2 a C ∧ sp (gV [x] zs) H2 Q E
theorem pe_callOK {F : FnOk X.prog X.w X.K X.mg X.base CX k g fd ps sp} (hf : PE X fe tf) (c : CallO X.K C g) (hr : Room k X.A) (hb : KBn X.K fd ps 1 ks gz gV) (hx : Passes CX X E) (hkw : PK X kws tk)
    (ht : eval (.Call fe [] kws pos) X.env = (do callWith pos (← eval fe X.env) [] (backTo pos (starEach [] X.env)) (backToKw pos (keywordEach kws X.env))) := by rfl)
    (hall : (backToKw pos (keywordEach kws X.env)).all (·.1.isSome) = true := by rfl) (hks : (backToKw pos (keywordEach kws X.env)).filterMap (·.1) = ks := by rfl)
    (hpl : ((backTo pos (starEach [] X.env)).any (·.1) || (backToKw pos (keywordEach kws X.env)).any (·.1.isNone)) = false := by rfl) : PE X (.Call fe [] kws pos) (tCallOK X C ks.length sp gV E tf tk) := by
  refine ⟨fun pins s σ H Q I h => ?_⟩
  rw [ht]
  refine wpAny_bind (thn (hf.run pins s σ H _ I h) fun u s1 ⟨y, H1, I1, ry, a, ey, q⟩ => ?_)
  subst ey
  obtain rfl : u = Value.ref a := ry
  refine callO_kws hall hpl (thn (hkw.run pos pins s1 σ H1 _ I1 q) fun ws s2 ⟨zs, H2, I2, rz, l2, hi, q2⟩ => ?_)
  obtain ⟨ox, od, J, hd⟩ := insC_at I2 hi
  refine ⟨⟨C, ox, od, J, hd⟩, ?_⟩
  rw [hks]
  refine wpAny_call (PySem.W.kco_code I2.kIn J hd c.at_ c.fn c.fi (codeAny_mono (F.run X.A X.stack s2 H2 ⟨[.ref a], ks.zip ws⟩ (gz [.ref a] ws) (gV [.ref a] zs) Q E hr I2.env0 (hb.to s2 [.ref a] ws I2.kIn rfl (rz.length.symm.trans l2)) (hb.rel (.cons rfl .nil) rz) q2) fun r s' hq => ?_))
  cases r with
  | error e => exact hx pins σ H2 s2 e s' I2 hq
  | ok fl =>
    cases fl with
    | ret u => exact I2.after hq
    | next => exact False.elim hq
    | brk => exact False.elim hq
    | cont => exact False.elim hq
end
end Tx
namespace Dl
open PySem PySem.Spec PyProof.Rows L2 Tx He Hx
open Evl (Ex)
def blsOf : List D → Option (List Bool)
  | [] => some []
  | .bl b :: ds => (blsOf ds).map (b :: ·)
  | _ :: _ => none
def allD : List D → Option Sl
  | [.lst ds] => (blsOf ds).map fun bs => .dat (.bl (bs.all id))
  | _ => none
def anyD : List D → Option Sl
  | [.lst ds] => (blsOf ds).map fun bs => .dat (.bl (bs.any id))
  | _ => none
def minD : List D → Option Sl
  | [.int i, .int j] => some (.dat (.int (if j < i then j else i)))
  | _ => none
def maxD : List D → Option Sl
  | [.int i, .int j] => some (.dat (.int (if j > i then j else i)))
  | _ => none
@[simp] theorem blsOf_map {α : Type} (p : α → Bool) : ∀ xs : List α, blsOf (xs.map fun x => D.bl (p x)) = some (xs.map p)
  | [] => rfl
  | x :: xs => by
    show (blsOf (xs.map fun x => D.bl (p x))).map (p x :: ·) = _
    rw [blsOf_map p xs]
    rfl
theorem bls_at {K : PySem.W.Frag} {H : Hp} : ∀ {ds : List D} {vs : List V} {bs : List Bool}, Reps K H vs ds → blsOf ds = some bs → vs = bs.map V.bl
  | [], _, _, .nil, h => by cases h; rfl
  | d :: ds, _, bs, .cons r rs, h => by
    cases d with
    | bl b =>
      unfold blsOf at h
      cases q : blsOf ds with
      | none => rw [q] at h; cases h
      | some l =>
        rw [q] at h
        cases h
        cases r
        rw [bls_at rs q]
        rfl
    | _ => cases h
section
variable [Tabl]
variable {X : Cx} {E : XK} {c : Str} {F : Fn} {k : Nat} {f : Addr}
theorem cd_all (hc : X.calm = true) : ClD X (.builtin "all") allD := by
  intro pins s σ H xs us Q I r ⟨M, ds, rr, dm, rs, hg, k⟩
  unfold allD at hg
  split at hg
  · rename_i l
    cases rs with
    | cons r1 rs =>
      cases rs
      cases r1 with
      | lst ha hv =>
        cases q : blsOf l with
        | none => rw [q] at hg; cases hg
        | some bs =>
          rw [q] at hg
          cases hg
          have e := bls_at hv q
          subst e
          exact cr_all hc pins s σ H _ us Q I r ⟨_, bs, rfl, Evl.sq_of (hid_of ha).2, k _ _ nd_bl⟩
  · cases hg
theorem cd_any (hc : X.calm = true) : ClD X (.builtin "any") anyD := by
  intro pins s σ H xs us Q I r ⟨M, ds, rr, dm, rs, hg, k⟩
  unfold anyD at hg
  split at hg
  · rename_i l
    cases rs with
    | cons r1 rs =>
      cases rs
      cases r1 with
      | lst ha hv =>
        cases q : blsOf l with
        | none => rw [q] at hg; cases hg
        | some bs =>
          rw [q] at hg
          cases hg
          have e := bls_at hv q
          subst e
          exact cr_any hc pins s σ H _ us Q I r ⟨_, bs, rfl, Evl.sq_of (hid_of ha).2, k _ _ nd_bl⟩
  · cases hg
theorem cd_min (hc : X.calm = true) : ClD X (.builtin "min") minD := by
  intro pins s σ H xs us Q I r ⟨M, ds, rr, dm, rs, hg, k⟩
  unfold minD at hg
  split at hg
  · rename_i i j
    cases hg
    cases rs with
    | cons r1 rs =>
      cases rs with
      | cons r2 rs =>
        cases rs
        cases r1
        cases r2
        exact call_min2 hc pins s σ H _ us Q I r ⟨i, j, rfl, k _ _ nd_int⟩
  · cases hg
theorem cd_max (hc : X.calm = true) : ClD X (.builtin "max") maxD := by
  intro pins s σ H xs us Q I r ⟨M, ds, rr, dm, rs, hg, k⟩
  unfold maxD at hg
  split at hg
  · rename_i i j
    cases hg
    cases rs with
    | cons r1 rs =>
      cases rs with
      | cons r2 rs =>
        cases rs
        cases r1
        cases r2
        exact call_max2 hc pins s σ H _ us Q I r ⟨i, j, rfl, k _ _ nd_int⟩
  · cases hg
/-- x(k = e, ..), x an instance of c -/
def dCallOK (c : Str) (np nk : Nat) (is : List Nat) (F : Fn) (fo : EM Sl) (gk : EM (List Ar)) : EM Sl := fo.bind fun o => if isC c o.d = true then dCallK o.d np nk is F gk else fun _ => .no
theorem de_callOK {fe : Expr} {kws : List Keyword} {fo : EM Sl} {gk : EM (List Ar)} {pos : Pos} {fd : FuncData} {ps ks : List Str} {is : List Nat} {gz : List Value → List Value → List Value} {gV : List V → List V → List V}
    (he : PE X fe (tD X.K (wx E) fo)) (m : StX.CallO X.K (ga X.K c) f) (Fp : FnOk X.prog X.w X.K X.mg X.base (L2.CX X.prog X.w) k f fd ps (spD X.K ps.length F)) (hr : Room k X.A) (hb : KBn X.K fd ps 1 ks gz gV) (hgV : ∀ x zs, zs.length = ks.length → gV [x] zs = x :: permI is zs) (tk : Takes X (wx E)) (hkw : PK X kws (tDA X.K (wx E) gk))
    (ht : eval (.Call fe [] kws pos) X.env = (do callWith pos (← eval fe X.env) [] (backTo pos (starEach [] X.env)) (backToKw pos (keywordEach kws X.env))) := by rfl)
    (hall : (backToKw pos (keywordEach kws X.env)).all (·.1.isSome) = true := by rfl) (hks : (backToKw pos (keywordEach kws X.env)).filterMap (·.1) = ks := by rfl)
    (hpl : ((backTo pos (starEach [] X.env)).any (·.1) || (backToKw pos (keywordEach kws X.env)).any (·.1.isNone)) = false := by rfl) :
    PE X (.Call fe [] kws pos) (tD X.K (wx E) (dCallOK c ps.length ks.length is F fo gk)) := by
  refine PE.imp (pe_callOK (F := Fp) he m hr hb (pass_of tk) hkw ht hall hks hpl) fun σ H Q ⟨B, M, Γ, S, h⟩ => ?_
  refine tD_use S ?_
  unfold dCallOK EM.bind at h
  cases eo : fo Γ with
  | no => rw [eo] at h; exact h
  | exc k fs g => rw [eo] at h; exact h
  | ok o Γ1 =>
    rw [eo] at h
    intro x H1 M1 S1 e1 r1
    dsimp only at h
    by_cases hp : isC c o.d = true
    · rw [if_pos hp] at h
      obtain ⟨a, dx, fs, rfl, hx⟩ := rep_ins r1 hp
      refine ⟨a, rfl, B, M1, Γ1, S1, ?_⟩
      unfold dCallK EM.bind at h
      cases e : gk Γ1 with
      | no => rw [e] at h; exact h
      | exc c fs g => rw [e] at h; exact h
      | ok as Γ2 =>
        rw [e] at h
        intro zs H2 M2 S2 e2 av
        dsimp only at h
        cases hd : dats as with
        | none => rw [hd] at h; exact h.elim
        | some ds =>
          rw [hd] at h
          dsimp only at h
          have rs := av.dats hd
          have rl := rs.length
          have r2 := r1.mono e2
          obtain ⟨a', dx', fs', ea, hx'⟩ := rep_ins r2 hp
          cases ea
          by_cases hl : ds.length = ks.length ∧ (permI is ds).length + 1 = ps.length
          · rw [if_pos hl] at h
            refine ⟨by omega, .inr ⟨dx', fs', hx'⟩, ?_⟩
            rw [hgV _ _ (by omega)]
            refine ⟨by rw [List.length_cons, (rs.perm is).length]; exact hl.2, ?_⟩
            refine spE_use (as := .dat o.d :: (permI is ds).map Ar.dat) S2 ⟨r2, argv_dats (rs.perm is)⟩ ?_
            cases hc : callD F (.dat o.d :: (permI is ds).map Ar.dat) Γ2 with
            | no => rw [hc] at h; exact h
            | exc c fs g => rw [hc] at h; exact h
            | ok r Γ' => rw [hc] at h; exact fun v H' M' q => h v H' M' (q.of_ex (e1.trans e2))
          · rw [if_neg hl] at h
            exact h.elim
    · rw [if_neg hp] at h
      exact h.elim
end
end Dl
end
section
set_option maxHeartbeats 4000000
set_option autoImplicit false
/-! a, b = [], [] with plain names: both held alone. -/
namespace Dl
open PySem PySem.Spec PyProof.Rows L2 Tx He Hx
open Evl (Ex)
def dPar2L (i j : Nat) : SM := fun Γ => .nx ((Γ.set i (some (.own (.lst [])))).set j (some (.own (.lst []))))
@[simp] theorem ev_par2L {i j : Nat} {Γ : Gm} : dPar2L i j Γ = .nx ((Γ.set i (some (.own (.lst [])))).set j (some (.own (.lst [])))) := rfl
@[simp] theorem ev_par3 {i j l : Nat} {fa fb fc : EM Sl} {Γ : Gm} : dPar3 i j l fa fb fc Γ = (fa Γ).fl fun x Γ1 => (fb Γ1).fl fun y Γ2 => (fc Γ2).fl fun z Γ3 => .nx (((Γ3.set i (some (.dat x.d))).set j (some (.dat y.d))).set l (some (.dat z.d))) := by
  unfold dPar3 dThen Rs.fl
  cases fa Γ <;> rfl
@[simp] theorem ev_callOK {Γ : Gm} {c : Str} {np nk : Nat} {is : List Nat} {F : Fn} {fo : EM Sl} {gk : EM (List Ar)} : dCallOK c np nk is F fo gk Γ = (fo Γ).an fun o Γ1 => if isC c o.d = true then dCallK o.d np nk is F gk Γ1 else .no := by
  unfold dCallOK
  rw [ev_bind]
  congr
  funext o Γ1
  split <;> rfl
section
variable [Tabl]
theorem SR.newList {K : PySem.W.Frag} {B : Bs} {M : List Addr} {Γ : Gm} {σ : L2.St} {H : Hp} {p : Addr} (S : SR K B M Γ σ H) (i : Nat) (hp : H p = none) :
    SR K B (p :: M) (Γ.set i (some (.own (.lst [])))) (σ.set i (some (.ref p))) (upd H p (.lst [])) := by
  have S2 := S.hide hp (Evl.Ex.new (o := .lst []) hp) upd_same (fun _ z => by cases z)
  refine S2.setOwn i (S.not_in (.of hp)) (fun j e hj hs => ?_) (S.fresh (.of hp)) ⟨[], upd_same, .nil⟩
  obtain ⟨q, h1, h2, _⟩ := S.own j e hj
  rw [h1] at hs
  cases hs
  exact S.not_in (.of hp) h2
theorem ds_par2L {X : Cx} {W : WX} {x y : Str} {px py pt pos p1 p2 : Pos} {kt k2 : Nat} {pt2 : Pos} {i j : Nat} (hc : X.calm = true) (hN : X.N.Nodup) (hi : X.N[i]? = some x) (hj : X.N[j]? = some y) (hij : i ≠ j)
    (hx : X.env.scope.names.lookup x = some .local) (hy : X.env.scope.names.lookup y = some .local)
    (hw : swappedStores [.Tuple [.Name x px, .Name y py] kt pt] (.Tuple [.List [] p1, .List [] p2] k2 pt2) X.env = pure (some [x, y]) := by rfl)
    (hs : swapsWithSole [.Tuple [.Name x px, .Name y py] kt pt] (.Tuple [.List [] p1, .List [] p2] k2 pt2) pos.line X.env = pure false := by rfl) :
    PS X (.Assign [.Tuple [.Name x px, .Name y py] kt pt] (.Tuple [.List [] p1, .List [] p2] k2 pt2) pos) (tS X.K W (dPar2L i j)) := by
  refine PS.imp (ps_par hc hN hi hj hij hx hy (pa_cons (pe_lst pa_nil) (pa_cons (pe_lst pa_nil) pa_nil)) hw hs) fun D σ H ⟨B, M, Γ, S, h⟩ => ?_
  refine ⟨by decide, fun p hp => ⟨by decide, fun q hq => ⟨.ref p, .ref q, rfl, ?_⟩⟩⟩
  have S1 := S.newList i hp
  have S2 := S1.newList j hq
  exact h _ _ _ S2 ((new_hid hp).trans (new_hid hq))
end
end Dl
end
section
set_option maxHeartbeats 4000000
/-! == of unlike kinds, and of dicts of numbers, over data. -/
namespace Dl
variable [Tabl]
open PySem PySem.Spec PyProof.Rows L2 Tx He
def valD (ls : List (L2.Key × D)) (k : L2.Key) : Option D := (ls.find? fun kv => decide (kv.1 = k)).map (·.2)
def dctH (ls : List (L2.Key × D)) : List (L2.Key × D) → Option Bool
  | [] => some true
  | (k, .int i) :: r => match valD ls k with
    | none => some false
    | some (.int j) => (dctH ls r).map fun b => (i == j) && b
    | _ => none
  | _ => none
def dctE (ks ls : List (L2.Key × D)) : Option Bool := if ks.length = ls.length then dctH ls ks else some false
/-- the built-in type of a value -/
def biT : D → Option String
  | .non => some "NoneType"
  | .bl _ => some "bool"
  | .int _ => some "int"
  | .str _ => some "str"
  | .tup _ => some "tuple"
  | .lst _ => some "list"
  | .dct _ => some "dict"
  | _ => none
def isDct : D → Bool
  | .dct _ => true
  | _ => false
def eqX0 (d e : D) : Option Sl := match d, e with
  | .dct ks, .dct ls => (dctE ks ls).map fun b => .dat (.bl b)
  | d, e => if isDct d || isDct e then (match biT d, biT e with
    | some _, some _ => some (.dat (.bl false))
    | _, _ => none) else opEqN false d e
def eqX1 (T : EqT) (d e : D) : Option Sl := match e with
  | .ins c fs => match biT d, T.lookup c with
    | some _, some F => (match F [.dat (.ins c fs), .dat d] with
      | .ok (.dat (.bl b)) [] => some (.dat (.bl b))
      | _ => none)
    | _, _ => none
  | e => eqX0 d e
/-- == with all that -/
def eqX (cs : List Str) (ts : List Ck) (T : EqT) (d e : D) : Option Sl := match d with
  | .ins c fs => eqO cs ts T false (.ins c fs) e
  | d => eqX1 T d e
def neX (cs : List Str) (ts : List Ck) (T : EqT) (d e : D) : Option Sl := match d, e with
  | .dct ks, .dct ls => (dctE ks ls).map fun b => .dat (.bl (!b))
  | d, e => eqO cs ts T true d e
section
variable {K : PySem.W.Frag} {H : Hp}
theorem RepK.val : ∀ {vs : List (L2.Key × V)} {ds : List (L2.Key × D)} (k : L2.Key), RepK K H vs ds → (∀ d, valD ds k = some d → ∃ x, valV vs k = some x ∧ Rep K H x d) ∧ (valD ds k = none → valV vs k = none)
  | _, _, k, .nil => ⟨fun d h => (by cases h), fun _ => rfl⟩
  | (k0, v) :: vs, (_, d0) :: ds, k, .cons h t => by
    obtain ⟨a, b⟩ := RepK.val k t
    by_cases e : k0 = k
    · subst e
      refine ⟨fun d q => ?_, fun q => ?_⟩
      · simp [valD, List.find?_cons] at q
        subst q
        exact ⟨v, valV_pos rfl, h⟩
      · simp [valD, List.find?_cons] at q
    · have e1 : valD ((k0, d0) :: ds) k = valD ds k := by simp [valD, List.find?_cons, e]
      have e2 : valV ((k0, v) :: vs) k = valV vs k := valV_neg e
      rw [e1, e2]
      exact ⟨a, b⟩
theorem RepK.length : ∀ {vs : List (L2.Key × V)} {ds : List (L2.Key × D)}, RepK K H vs ds → vs.length = ds.length
  | _, _, .nil => rfl
  | _, _, .cons _ r => congrArg Nat.succ r.length
theorem biv_of {M : List Addr} {v : V} {d : D} {T : String} (r : Rep K (hid H M) v d) (h : biT d = some T) : BiV H v T := by
  cases r with
  | non => cases h; exact .non
  | bl b => cases h; exact .bl b
  | int i => cases h; exact .int i
  | str z => cases h; exact .str z
  | tup q _ => cases h; exact .tup (hid_of q).2
  | lst q _ => cases h; exact .lst (hid_of q).2
  | dct q _ => cases h; exact .dct (hid_of q).2
  | _ => cases h
theorem dctH_hits {A : Around} {s : Shared} {ls : List (L2.Key × D)} {us : List (L2.Key × V)} {ws : List (L2.Key × Value)} (rl : RepK K H us ls) (kl : KV us ws) :
    ∀ {ks : List (L2.Key × D)} {vs : List (L2.Key × V)} {zs : List (L2.Key × Value)} {b : Bool}, RepK K H vs ks → KV vs zs → dctH ls ks = some b → PySem.W.KeqHits A s ws zs b
  | _, _, _, _, .nil, .nil, h => by cases h; exact .nil
  | (k, _) :: ks, _, (_, z) :: zs, b, .cons (d := d) r1 r2, .cons ⟨e1, r3⟩ r4, h => by
    cases e1
    cases r1 with
    | int i =>
      obtain ⟨t1, rfl⟩ := r3
      unfold dctH at h
      have q := kl.val k
      obtain ⟨va, vb⟩ := RepK.val k rl
      cases hv : valD ls k with
      | none =>
        rw [hv] at h
        cases h
        rw [vb hv] at q
        cases hq : valueAt ws k with
        | none => exact .miss hq
        | some y => rw [hq] at q; exact False.elim q
      | some e =>
        rw [hv] at h
        obtain ⟨x, x1, x2⟩ := va e hv
        rw [x1] at q
        cases hq : valueAt ws k with
        | none => rw [hq] at q; exact False.elim q
        | some y =>
          rw [hq] at q
          cases x2 with
          | int j =>
            obtain ⟨t2, rfl⟩ := (show ∃ t, y = .int j t from q)
            cases hr : dctH ls ks with
            | none => rw [hr] at h; cases h
            | some b0 =>
              rw [hr] at h
              cases h
              exact .hit hq (SeqAt.EqAt.int_int i t1 j t2) (dctH_hits rl kl r2 r4 hr)
          | _ => cases h
    | _ => cases h
end
section
variable {X : Cx} {k : Nat} {cs : List Str} {ts : List Ck} {T : EqT}
theorem dct_run {pins : List (Addr × Obj)} {σ : L2.St} {H : Hp} {s : Shared} {M : List Addr} {x y : V} {u v : Value} {ks ls : List (L2.Key × D)} {b : Bool} (I : Inv X pins σ H s) (rx : RelV x u) (ry : RelV y v) (hx : Rep X.K (hid H M) x (.dct ks)) (hy : Rep X.K (hid H M) y (.dct ls)) (hb : dctE ks ls = some b) :
    ∃ a c ka kb, u = .ref a ∧ v = .ref c ∧ (a == sysModules) = false ∧ (c == sysModules) = false ∧ s.heap.DictOf (mixKind X.prog X.w) a ka ∧ s.heap.DictOf (mixKind X.prog X.w) c kb ∧ ∃ r, (∀ A, ka.length = kb.length → PySem.W.KeqHits A s kb ka r) ∧ (ka.length == kb.length && r) = b := by
  cases hx with
  | dct h1 r1 => cases hy with
    | dct h2 r2 =>
      cases rx
      cases ry
      obtain ⟨_, n1, vs1, k1, q1⟩ := (show ObjOk X.prog X.w H s.heap _ (.dK _) from I.hok _ _ (hid_of h1).2)
      obtain ⟨_, n2, vs2, k2, q2⟩ := (show ObjOk X.prog X.w H s.heap _ (.dK _) from I.hok _ _ (hid_of h2).2)
      have e1 : vs1.length = ks.length := k1.length.symm.trans r1.length
      have e2 : vs2.length = ls.length := k2.length.symm.trans r2.length
      unfold dctE at hb
      by_cases he : ks.length = ls.length
      · rw [if_pos he] at hb
        refine ⟨_, _, vs1, vs2, rfl, rfl, n1, n2, q1, q2, b, fun A _ => dctH_hits r2 k2 r1 k1 hb, ?_⟩
        simp [e1, e2, he]
      · rw [if_neg he] at hb
        cases hb
        refine ⟨_, _, vs1, vs2, rfl, rfl, n1, n2, q1, q2, true, fun A z => absurd (by rw [← e1, ← e2]; exact z) he, ?_⟩
        simp [e1, e2, he]
theorem od_eqX (hu : X.A.units + 64 < cLine) (hr : Room k X.A) (hc : InsOk X.K cs) (hT : ∀ e ∈ T, EqOk X.prog X.w X.K X.mg X.base k cs ts e.1 e.2) (hB : ∀ e ∈ T, ∀ t ∈ bts, PySem.W.subIn X.K (.ref (ga X.K e.1)) (.type t) = some false) : OpD X (compareOp .Eq) (eqX cs ts T) := by
  intro pins s σ H x y v u Q I rx ry ⟨M, d, e, r, dm, hx, hy, hg, kk⟩
  unfold eqX at hg
  split at hg
  · exact od_eqO hu hr hc hT pins s σ H x y v u Q I rx ry ⟨M, _, e, r, dm, hx, hy, hg, kk⟩
  unfold eqX1 at hg
  split at hg
  · rename_i c fs
    cases hb : biT d with
    | none => rw [hb] at hg; cases hg
    | some t => cases hl : T.lookup c with
      | none => rw [hb, hl] at hg; cases hg
      | some F =>
        rw [hb, hl] at hg
        dsimp only at hg
        obtain ⟨⟨f, fd, ps, q1, q2, q3, q4⟩, nf⟩ := hT _ (lookupT hl)
        have hy0 := hy
        cases hy with
        | ins ha rf =>
          cases hF : F [.dat (.ins c fs), .dat d] with
          | no => rw [hF] at hg; cases hg
          | exc _ _ _ => rw [hF] at hg; cases hg
          | ok rr qs =>
            rw [hF] at hg
            refine op_eqR q1 (hB _ (lookupT hl)) q3 hr q4 pass_bot pins s σ H _ _ v u Q I rx ry ⟨_, _, _, _, biv_of hx hb, rfl, (hid_of ha).2, rfl, spE_pure dm (.cons hy0 (.cons hx .nil)) ?_⟩
            show match F [.dat (.ins c fs), .dat d] with | .ok r [] => _ | _ => _
            rw [hF]
            cases rr with
            | own _ => cases hg
            | par _ => cases hg
            | dat d0 => cases d0 with
              | bl b => cases qs with
                | nil =>
                  cases hg
                  intro v' H' n
                  obtain ⟨n1, n2⟩ := n
                  cases n2
                  exact ⟨b, rfl, kk _ _ ⟨n1, .bl b⟩⟩
                | cons _ _ => cases hg
              | _ => cases hg
  unfold eqX0 at hg
  split at hg
  · rename_i ks ls _ _
    cases hb : dctE ks ls with
    | none => rw [hb] at hg; cases hg
    | some b =>
      rw [hb] at hg
      cases hg
      obtain ⟨a, c, ka, kb, rfl, rfl, n1, n2, d1, d2, r, hits, eb⟩ := dct_run I rx ry hx hy hb
      exact PySem.W.keq_eq n1 n2 d1 d2 (by omega) (hits _) ⟨_, H, I, show RelV (.bl b) (.bool _) from by rw [eb]; rfl, kk _ _ nd_bl⟩
  · split at hg
    · rename_i hz
      cases h1 : biT d with
      | none => rw [h1] at hg; cases hg
      | some T1 => cases h2 : biT e with
        | none => rw [h1, h2] at hg; cases hg
        | some T2 =>
          rw [h1, h2] at hg
          cases hg
          have go : T1 ≠ T2 ∧ (T1 = "dict" ∨ T2 = "dict") := by
            cases d <;> cases e <;> simp_all [biT, isDct]
            all_goals (subst h1; subst h2; decide)
          exact op_eqDB (by omega) pins s σ H x y v u Q I rx ry ⟨T1, T2, biv_of hx h1, biv_of hy h2, go.1, go.2, kk _ _ nd_bl⟩
    · exact od_eqP hu pins s σ H x y v u Q I rx ry ⟨M, d, e, r, dm, hx, hy, hg, kk⟩
theorem od_neX (hu : X.A.units + 64 < cLine) (hr : Room (k + 1) X.A) (hc : InsOk X.K cs) (hT : ∀ e ∈ T, EqOk X.prog X.w X.K X.mg X.base k cs ts e.1 e.2) : OpD X (compareOp .NotEq) (neX cs ts T) := by
  intro pins s σ H x y v u Q I rx ry ⟨M, d, e, r, dm, hx, hy, hg, kk⟩
  unfold neX at hg
  split at hg
  · rename_i ks ls
    cases hb : dctE ks ls with
    | none => rw [hb] at hg; cases hg
    | some b =>
      rw [hb] at hg
      cases hg
      obtain ⟨a, c, ka, kb, rfl, rfl, n1, n2, d1, d2, r, hits, eb⟩ := dct_run I rx ry hx hy hb
      exact PySem.W.keq_ne n1 n2 d1 d2 (by omega) (hits _) ⟨_, H, I, show RelV (.bl (!b)) (.bool _) from by rw [eb]; rfl, kk _ _ nd_bl⟩
  · exact od_neO hu hr hc hT pins s σ H x y v u Q I rx ry ⟨M, d, e, r, dm, hx, hy, hg, kk⟩
end
end Dl
end
section
set_option maxHeartbeats 4000000
/-! f'..' with own instances, !s, and a width. -/
namespace Tx
open PySem PySem.Spec PyProof.Rows L2 StX Hx
section
variable {X : Cx}
/-- {x}: by what is told of formatField -/
def tFmtG (op : V → Hp → VK → Prop) (te : TE) : TE := fun σ H Q => te σ H fun x H1 => op x H1 Q
def FldR (X : Cx) (fld : Value → Sem Value) (op : V → Hp → VK → Prop) : Prop := ∀ (pins : List (Addr × Obj)) (σ : L2.St) (H : Hp) (s : Shared) (x : V) (u : Value) (Q : VK), Inv X pins σ H s → RelV x u → op x H Q → wpAny (model X.prog X.w) X.A (fld u) (EP X pins σ Q) X.xe s
theorem pe_fmtG {op : V → Hp → VK → Prop} {e : Expr} {te : TE} {pos : Pos} (ho : FldR X (fun u => formatField u Str.empty) op) (he : PE X e te) : PE X (.FormattedValue e (-1) none pos) (tFmtG op te) :=
  ⟨fun pins s σ H Q I h => wpAny_FormattedValue_plain (thn (he.run pins s σ H _ I h) fun v s1 ⟨x, H1, I1, r1, q⟩ => ho pins σ H1 s1 x v Q I1 r1 q)⟩
def FldS (X : Cx) (op : V → Hp → VK → Prop) : Prop := ∀ (pins : List (Addr × Obj)) (σ : L2.St) (H : Hp) (s : Shared) (x : V) (u : Value) (Q : VK), Inv X pins σ H s → RelV x u → op x H Q → wpAny (model X.prog X.w) X.A (convS u) (fun r s2 => wpAny (model X.prog X.w) X.A (formatField r Str.empty) (EP X pins σ Q) X.xe s2) X.xe s
theorem pe_fmtSG {op : V → Hp → VK → Prop} {e : Expr} {te : TE} {pos : Pos} (ho : FldS X op) (he : PE X e te) : PE X (.FormattedValue e 115 none pos) (tFmtG op te) :=
  ⟨fun pins s σ H Q I h => wpAny_FormattedValue_s (thn (he.run pins s σ H _ I h) fun v s1 ⟨x, H1, I1, r1, q⟩ => ho pins σ H1 s1 x v Q I1 r1 q)⟩
/-- the own text of an instance -/
def fOwn (C : Addr) (sp : Sp) (E : XK) : V → Hp → VK → Prop := fun x H Q => ∃ a dx fs, x = .ref a ∧ H a = some (.ins C dx fs) ∧ sp [x] H (fun v H' => ∃ y : Str, v = .str y ∧ y.length ≤ sizeLine ∧ Q (.str y) H') E
variable {CX : CXT} {k : Nat} {C f : Addr} {sp : Sp} {E : XK}
theorem fld_own (c : FmtO X.K C f) (F : FnR X.prog X.w X.K X.mg X.base CX k f sp) (room : Room (k + 2) X.A) (pas : Passes CX X E) : FldR X (fun u => formatField u Str.empty) (fOwn C sp E) := by
  intro pins σ H s x u Q I r ⟨a, dx, fs, ex, ha, h⟩
  subst ex
  cases r
  obtain ⟨mA, J, _⟩ := ins_get I.hok ha
  obtain ⟨od, J, _⟩ := J.look
  refine PySem.W.kfo_fieldS room.in1.units0 I.kIn J c.fm c.ob c.m.at_ c.m.fn (wpAny_mono (run_at (vs := [.ref a]) (us := [.ref a]) F pas (room.in1.mono (Nat.le_succ _)) rfl (I.tok _) (.cons rfl .nil) h) (fun r s' ⟨v, H', I', rv, y, ev, _, q⟩ => ?_) fun _ _ z => z)
  subst ev
  obtain ⟨t, rfl⟩ := rv
  exact ⟨.str y, H', I', ⟨t, rfl⟩, q⟩
theorem fld_ownS (c : OwnM X.K C "__str__" f) (F : FnR X.prog X.w X.K X.mg X.base CX k f sp) (room : Room (k + 2) X.A) (pas : Passes CX X E) : FldS X (fOwn C sp E) := by
  intro pins σ H s x u Q I r ⟨a, dx, fs, ex, ha, h⟩
  subst ex
  cases r
  obtain ⟨mA, J, _⟩ := ins_get I.hok ha
  obtain ⟨od, J, _⟩ := J.look
  show wpAny _ _ (pyStrObj (.ref a)) _ _ _
  refine PySem.W.kfo_str room.units0 I.kIn J c.at_ c.fn (wpAny_mono (run_at (vs := [.ref a]) (us := [.ref a]) F pas (room.mono (Nat.le_add_right _ _)) rfl I (.cons rfl .nil) h) (fun r s' ⟨v, H', I', rv, y, ev, hz, q⟩ => ?_) fun _ _ z => z)
  subst ev
  obtain ⟨t, rfl⟩ := rv
  exact wpAny_formatField_str ⟨.str y, H', I', ⟨t, rfl⟩, q⟩ ⟨.str y, H', I'.tok _, ⟨_, rfl⟩, q⟩ hz
/-- a text with !s -/
def fStrS : V → Hp → VK → Prop := fun x H Q => ∃ y : Str, x = .str y ∧ y.length ≤ sizeLine ∧ Q (.str y) H
end
end Tx
end
section
set_option maxHeartbeats 4000000
/-! f'..' with own instances, over data. -/
namespace Dl
variable [Tabl]
open PySem PySem.Spec PyProof.Rows L2 Tx He Hx
structure FmtOk (P : Program) (w : World) (K : PySem.W.Frag) (mg : Str → Option Value) (base : Heap) (k : Nat) (c : Str) (F : Fn) : Prop where
  f : ∃ f, FmtO K (ga K c) f ∧ FnE P w K mg base k f F
def insS (T : EqT) : D → Option Sl
  | .ins c fs => match T.lookup c with
    | some F => (match F [.dat (.ins c fs)] with | .ok (.dat (.str z)) [] => if z.length ≤ sizeLine then some (.dat (.str z)) else none | _ => none)
    | none => none
  | _ => none
/-- {x}, x also an own instance -/
def fmtO (T : EqT) (d : D) : Option Sl := match d with
  | .ins c fs => insS T (.ins c fs)
  | d => fmtD [] d
section
variable {X : Cx} {W : WX} {k : Nat} {T : EqT} {a : Expr} {fa : EM Sl} {pos : Pos}
/-- what is told of an own text -/
theorem own_run {M : List Addr} {d : D} {r : Sl} {x : V} {H : Hp} {Q : VK} (dm : Dm M H) (hx : Rep X.K (hid H M) x d) (hg : insS T d = some r) (kk : ∀ v H', New X.K M H H' v r → Q v H') : ∃ c fs F, d = .ins c fs ∧ (c, F) ∈ T ∧ fOwn (ga X.K c) (spE X.K F) (fun _ _ _ => False) x H Q := by
  unfold insS at hg
  split at hg
  · rename_i c fs
    cases hl : T.lookup c with
    | none => rw [hl] at hg; cases hg
    | some F =>
      rw [hl] at hg
      dsimp only at hg
      refine ⟨c, fs, F, rfl, lookupT hl, ?_⟩
      have hx0 := hx
      cases hx with
      | ins ha rf =>
        refine ⟨_, _, _, rfl, (hid_of ha).2, spE_pure dm (.cons hx0 .nil) ?_⟩
        show match F [.dat (.ins c fs)] with | .ok r [] => _ | _ => _
        cases hF : F [.dat (.ins c fs)] with
        | no => rw [hF] at hg; cases hg
        | exc _ _ _ => rw [hF] at hg; cases hg
        | ok r0 qs =>
          rw [hF] at hg
          cases r0 with
          | own _ => cases hg
          | par _ => cases hg
          | dat d0 => cases d0 with
            | str z => cases qs with
              | nil =>
                dsimp only at hg
                split at hg
                · rename_i hz
                  cases hg
                  intro v' H' n
                  obtain ⟨n1, n2⟩ := n
                  cases n2
                  exact ⟨z, rfl, hz, kk _ _ ⟨n1, .str z⟩⟩
                · cases hg
              | cons _ _ => cases hg
            | _ => cases hg
  · cases hg
def fO (X : Cx) (T : EqT) : V → Hp → VK → Prop := fun x H Q => (∃ y : Str, x = .str y ∧ y.length ≤ sizeLine ∧ Q (.str y) H) ∨ (∃ i : Int, x = .int i ∧ i.natAbs.log2 < 1920 ∧ Q (.str (toString i)) H) ∨ ∃ c F, (c, F) ∈ T ∧ fOwn (ga X.K c) (spE X.K F) (fun _ _ _ => False) x H Q
theorem fld_O (hr : Room (k + 2) X.A) (hT : ∀ e ∈ T, FmtOk X.prog X.w X.K X.mg X.base k e.1 e.2) : FldR X (fun u => formatField u Str.empty) (fO X T) := by
  intro pins σ H s x u Q I r h
  rcases h with ⟨y, rfl, hz, q⟩ | ⟨i, rfl, hz, q⟩ | ⟨c, F, hc, q⟩
  · obtain ⟨t, rfl⟩ := r
    exact wpAny_formatField_str ⟨.str y, H, I, ⟨t, rfl⟩, q⟩ ⟨.str y, H, I.tok _, ⟨_, rfl⟩, q⟩ hz
  · obtain ⟨t, rfl⟩ := r
    exact wpAny_formatField_int hz ⟨.str (toString i), H, I.tok _, ⟨_, rfl⟩, q⟩
  · obtain ⟨f, q1, q2⟩ := (hT _ hc).f
    exact fld_own q1 q2 hr pass_bot pins σ H s x u Q I r q
theorem de_fmtO (hr : Room (k + 2) X.A) (hT : ∀ e ∈ T, FmtOk X.prog X.w X.K X.mg X.base k e.1 e.2) (ha : PE X a (tD X.K W fa)) : PE X (.FormattedValue a (-1) none pos) (tD X.K W (dUn (fmtO T) fa)) := by
  refine PE.imp (pe_fmtG (fld_O hr hT) ha) fun σ H Q h => ?_
  have q := q_un h
  obtain ⟨B, M, Γ, S, q⟩ := q
  refine ⟨B, M, Γ, S, ?_⟩
  cases eg : fa Γ with
  | no => rw [eg] at q; exact q
  | exc c fs g => rw [eg] at q; exact q
  | ok o Γ1 =>
    rw [eg] at q
    intro x H1 M1 vl
    obtain ⟨M2, d, r, dm, rx, hg, kk⟩ := q x H1 M1 vl
    unfold fmtO at hg
    split at hg
    · obtain ⟨c, fs, F, _, hc, q⟩ := own_run dm rx hg kk
      exact .inr (.inr ⟨c, F, hc, q⟩)
    unfold fmtD at hg
    split at hg
    · rename_i z _
      split at hg
      · rename_i hz
        cases hg
        cases rx
        exact .inl ⟨z, rfl, hz, kk _ _ nd_str⟩
      · cases hg
    · rename_i i _
      split at hg
      · rename_i hz
        cases hg
        cases rx
        exact .inr (.inl ⟨i, rfl, hz, kk _ _ nd_str⟩)
      · cases hg
    · cases hg
end
end Dl
end
section
set_option maxHeartbeats 4000000
/-! {"a": e}: one pair, e a name or a constant. -/
namespace Dl
variable [Tabl]
open PySem PySem.Spec PyProof.Rows L2 Tx He Hx
open Evl (Ex)
def dDctV (z : Str) (i : Nat) : EM Sl := fun Γ => match Γ[i]? with
  | some (some (.dat d)) => .ok (.own (.dct [(.inr z, d)])) Γ
  | _ => .no
def dDctC (z : Str) (n : Int) : EM Sl := EM.ret (.own (.dct [(.inr z, .int n)]))
section
variable {X : Cx} {W : WX} {e : Expr} {pos kp : Pos} {z : Str} {j : Option Str}
theorem dct_new {M : List Addr} {H : Hp} {p : Addr} {v : V} {d : D} (hp : H p = none) (r : Rep X.K (hid H M) v d) : New X.K M H (upd (upd H p (.dK [])) p (.dK (mergeK [] [(.inr z, v)]))) (.ref p) (.own (.dct [(.inr z, d)])) := by
  have ex : Ex H (upd (upd H p (.dK [])) p (.dK (mergeK [] [(.inr z, v)]))) := fun a o h => by
    have ne : a ≠ p := ne_of_none h hp
    rw [upd_ne ne, upd_ne ne]
    exact h
  refine ⟨p, rfl, .of hp, .of ex, [(.inr z, v)], ?_, .cons (r.mono (hide_k (.of hp) (.of ex))) .nil⟩
  rw [upd_same]
  rfl
theorem de_dctV {x : Str} {i : Nat} (hN : X.N[i]? = some x) (hv : Vis X.env.scope x) (hd : (x == ("__debug__" : Str)) = false := by decide) (hcd : (x == ("__classdict__" : Str)) = false := by decide) {k0} {pos2 : Pos} :
    PE X (.Dict [some (.Constant (.str z) k0 kp)] [.Name x pos2] pos) (tD X.K W (dDctV z i)) := PE.imp (pe_disp (pps_cons pe_str (pe_var hN hv hd hcd) pps_nil) rfl rfl (fun h => nomatch h) (Nat.le_of_ble_eq_true rfl)) fun σ H Q ⟨B, M, Γ, S, h⟩ p hp => by
  unfold dDctV at h
  cases hg : Γ[i]? with
  | none => rw [hg] at h; exact h.elim
  | some o => cases o with
    | none => rw [hg] at h; exact h.elim
    | some sl => cases sl with
      | own d => rw [hg] at h; exact h.elim
      | par d => rw [hg] at h; exact h.elim
      | dat d =>
        rw [hg] at h
        obtain ⟨v, e1, r⟩ := S.dat i d hg
        exact ⟨v, e1, upd_same, [(.inr z, v)], rfl, Nat.le_of_ble_eq_true rfl, h _ _ M ((dct_new hp r).val S (Evl.Ex.refl _))⟩
theorem de_dctC {n : Int} {k0 k1} {pos' : Pos} : PE X (.Dict [some (.Constant (.str z) k0 kp)] [.Constant (.int n) k1 pos'] pos) (tD X.K W (dDctC z n)) := PE.imp (pe_disp (pps_cons pe_str pe_int pps_nil) rfl rfl (fun h => nomatch h) (Nat.le_of_ble_eq_true rfl)) fun σ H Q ⟨B, M, Γ, S, h⟩ p hp =>
  ⟨upd_same, [(.inr z, .int n)], rfl, Nat.le_of_ble_eq_true rfl, h _ _ M ((dct_new hp (.int n)).val S (Evl.Ex.refl _))⟩
@[simp] theorem ev_dctV {z : Str} {i : Nat} {Γ : Gm} {d : D} (h : Γ[i]? = some (some (.dat d))) : dDctV z i Γ = .ok (.own (.dct [(.inr z, d)])) Γ := by
  unfold dDctV
  rw [h]
@[simp] theorem ev_dctC {z : Str} {n : Int} {Γ : Gm} : dDctC z n Γ = .ok (.own (.dct [(.inr z, .int n)])) Γ := rfl
end
end Dl
end
section
set_option maxHeartbeats 4000000
namespace K46
open PySem PySem.Spec PyProof.Rows L2 Tx He Hx Dl
open Evl (Ex)
variable [Tabl]
def cs : List Str := ["Depths", "Key", "System", "Crossing"]
def flc_depths : List Str := ["System"]
def flc_key : List Str := ["Crossing"]
def flc_master : List Str := ["System"]
def flc_other : List Str := ["Crossing"]
def flc_own_cuts : List Str := ["Key"]
def flc_places : List Str := ["Key", "Crossing"]
def flc_system : List Str := ["Key"]
def isT : IsT := [((.b "NoneType", .b "int"), false), ((.b "NoneType", .b "bool"), false), ((.b "NoneType", .b "str"), false), ((.b "NoneType", .b "list"), false), ((.b "NoneType", .b "tuple"), false), ((.b "NoneType", .o "Depths"), false), ((.b "NoneType", .o "Key"), false), ((.b "NoneType", .o "System"), false), ((.b "NoneType", .o "Crossing"), false), ((.b "bool", .b "int"), true), ((.b "bool", .b "bool"), true), ((.b "bool", .b "str"), false), ((.b "bool", .b "list"), false), ((.b "bool", .b "tuple"), false), ((.b "bool", .o "Depths"), false), ((.b "bool", .o "Key"), false), ((.b "bool", .o "System"), false), ((.b "bool", .o "Crossing"), false), ((.b "int", .b "int"), true), ((.b "int", .b "bool"), false), ((.b "int", .b "str"), false), ((.b "int", .b "list"), false), ((.b "int", .b "tuple"), false), ((.b "int", .o "Depths"), false), ((.b "int", .o "Key"), false), ((.b "int", .o "System"), false), ((.b "int", .o "Crossing"), false), ((.b "str", .b "int"), false), ((.b "str", .b "bool"), false), ((.b "str", .b "str"), true), ((.b "str", .b "list"), false), ((.b "str", .b "tuple"), false), ((.b "str", .o "Depths"), false), ((.b "str", .o "Key"), false), ((.b "str", .o "System"), false), ((.b "str", .o "Crossing"), false), ((.b "list", .b "int"), false), ((.b "list", .b "bool"), false), ((.b "list", .b "str"), false), ((.b "list", .b "list"), true), ((.b "list", .b "tuple"), false), ((.b "list", .o "Depths"), false), ((.b "list", .o "Key"), false), ((.b "list", .o "System"), false), ((.b "list", .o "Crossing"), false), ((.b "tuple", .b "int"), false), ((.b "tuple", .b "bool"), false), ((.b "tuple", .b "str"), false), ((.b "tuple", .b "list"), false), ((.b "tuple", .b "tuple"), true), ((.b "tuple", .o "Depths"), false), ((.b "tuple", .o "Key"), false), ((.b "tuple", .o "System"), false), ((.b "tuple", .o "Crossing"), false), ((.b "dict", .b "int"), false), ((.b "dict", .b "bool"), false), ((.b "dict", .b "str"), false), ((.b "dict", .b "list"), false), ((.b "dict", .b "tuple"), false), ((.b "dict", .o "Depths"), false), ((.b "dict", .o "Key"), false), ((.b "dict", .o "System"), false), ((.b "dict", .o "Crossing"), false), ((.o "Depths", .b "int"), false), ((.o "Depths", .b "bool"), false), ((.o "Depths", .b "str"), false), ((.o "Depths", .b "list"), false), ((.o "Depths", .b "tuple"), false), ((.o "Depths", .o "Depths"), true), ((.o "Depths", .o "Key"), false), ((.o "Depths", .o "System"), false), ((.o "Depths", .o "Crossing"), false), ((.o "Key", .b "int"), false), ((.o "Key", .b "bool"), false), ((.o "Key", .b "str"), false), ((.o "Key", .b "list"), false), ((.o "Key", .b "tuple"), false), ((.o "Key", .o "Depths"), false), ((.o "Key", .o "Key"), true), ((.o "Key", .o "System"), false), ((.o "Key", .o "Crossing"), false), ((.o "System", .b "int"), false), ((.o "System", .b "bool"), false), ((.o "System", .b "str"), false), ((.o "System", .b "list"), false), ((.o "System", .b "tuple"), false), ((.o "System", .o "Depths"), true), ((.o "System", .o "Key"), false), ((.o "System", .o "System"), true), ((.o "System", .o "Crossing"), false), ((.o "Crossing", .b "int"), false), ((.o "Crossing", .b "bool"), false), ((.o "Crossing", .b "str"), false), ((.o "Crossing", .b "list"), false), ((.o "Crossing", .b "tuple"), false), ((.o "Crossing", .o "Depths"), false), ((.o "Crossing", .o "Key"), false), ((.o "Crossing", .o "System"), false), ((.o "Crossing", .o "Crossing"), true)]
def ts : List Ck := [.b "NoneType", .b "bool", .b "int", .b "str", .b "list", .b "tuple", .b "dict", .o "Depths", .o "Key", .o "System", .o "Crossing"]
section
variable {w : World} {K : PySem.W.Frag} {mg : Str → Option Value} {base : Heap} (W : Wd K mg)
include W
theorem cs_ok : InsOk K cs := fun c h => by
  simp only [cs, List.mem_cons, List.not_mem_nil, or_false] at h
  rcases h with rfl | rfl | rfl | rfl
  · exact W.k_Depths
  · exact W.k_Key
  · exact W.k_System
  · exact W.k_Crossing
theorem isT_ok : IsTOk K isT := List.forall_mem_cons.mpr ⟨kit_ty (by decide +kernel), List.forall_mem_cons.mpr ⟨kit_ty (by decide +kernel), List.forall_mem_cons.mpr ⟨kit_ty (by decide +kernel), List.forall_mem_cons.mpr ⟨kit_ty (by decide +kernel), List.forall_mem_cons.mpr ⟨kit_ty (by decide +kernel), List.forall_mem_cons.mpr ⟨W.far_Depths (.type "NoneType") (by decide), List.forall_mem_cons.mpr ⟨W.far_Key (.type "NoneType") (by decide), List.forall_mem_cons.mpr ⟨W.far_System (.type "NoneType") (by decide), List.forall_mem_cons.mpr ⟨W.far_Crossing (.type "NoneType") (by decide), List.forall_mem_cons.mpr ⟨kit_ty (by decide +kernel), List.forall_mem_cons.mpr ⟨kit_ty (by decide +kernel), List.forall_mem_cons.mpr ⟨kit_ty (by decide +kernel), List.forall_mem_cons.mpr ⟨kit_ty (by decide +kernel), List.forall_mem_cons.mpr ⟨kit_ty (by decide +kernel), List.forall_mem_cons.mpr ⟨W.far_Depths (.type "bool") (by decide), List.forall_mem_cons.mpr ⟨W.far_Key (.type "bool") (by decide), List.forall_mem_cons.mpr ⟨W.far_System (.type "bool") (by decide), List.forall_mem_cons.mpr ⟨W.far_Crossing (.type "bool") (by decide), List.forall_mem_cons.mpr ⟨kit_ty (by decide +kernel), List.forall_mem_cons.mpr ⟨kit_ty (by decide +kernel), List.forall_mem_cons.mpr ⟨kit_ty (by decide +kernel), List.forall_mem_cons.mpr ⟨kit_ty (by decide +kernel), List.forall_mem_cons.mpr ⟨kit_ty (by decide +kernel), List.forall_mem_cons.mpr ⟨W.far_Depths (.type "int") (by decide), List.forall_mem_cons.mpr ⟨W.far_Key (.type "int") (by decide), List.forall_mem_cons.mpr ⟨W.far_System (.type "int") (by decide), List.forall_mem_cons.mpr ⟨W.far_Crossing (.type "int") (by decide), List.forall_mem_cons.mpr ⟨kit_ty (by decide +kernel), List.forall_mem_cons.mpr ⟨kit_ty (by decide +kernel), List.forall_mem_cons.mpr ⟨kit_ty (by decide +kernel), List.forall_mem_cons.mpr ⟨kit_ty (by decide +kernel), List.forall_mem_cons.mpr ⟨kit_ty (by decide +kernel), List.forall_mem_cons.mpr ⟨W.far_Depths (.type "str") (by decide), List.forall_mem_cons.mpr ⟨W.far_Key (.type "str") (by decide), List.forall_mem_cons.mpr ⟨W.far_System (.type "str") (by decide), List.forall_mem_cons.mpr ⟨W.far_Crossing (.type "str") (by decide), List.forall_mem_cons.mpr ⟨kit_ty (by decide +kernel), List.forall_mem_cons.mpr ⟨kit_ty (by decide +kernel), List.forall_mem_cons.mpr ⟨kit_ty (by decide +kernel), List.forall_mem_cons.mpr ⟨kit_ty (by decide +kernel), List.forall_mem_cons.mpr ⟨kit_ty (by decide +kernel), List.forall_mem_cons.mpr ⟨W.far_Depths (.type "list") (by decide), List.forall_mem_cons.mpr ⟨W.far_Key (.type "list") (by decide), List.forall_mem_cons.mpr ⟨W.far_System (.type "list") (by decide), List.forall_mem_cons.mpr ⟨W.far_Crossing (.type "list") (by decide), List.forall_mem_cons.mpr ⟨kit_ty (by decide +kernel), List.forall_mem_cons.mpr ⟨kit_ty (by decide +kernel), List.forall_mem_cons.mpr ⟨kit_ty (by decide +kernel), List.forall_mem_cons.mpr ⟨kit_ty (by decide +kernel), List.forall_mem_cons.mpr ⟨kit_ty (by decide +kernel), List.forall_mem_cons.mpr ⟨W.far_Depths (.type "tuple") (by decide), List.forall_mem_cons.mpr ⟨W.far_Key (.type "tuple") (by decide), List.forall_mem_cons.mpr ⟨W.far_System (.type "tuple") (by decide), List.forall_mem_cons.mpr ⟨W.far_Crossing (.type "tuple") (by decide), List.forall_mem_cons.mpr ⟨kit_ty (by decide +kernel), List.forall_mem_cons.mpr ⟨kit_ty (by decide +kernel), List.forall_mem_cons.mpr ⟨kit_ty (by decide +kernel), List.forall_mem_cons.mpr ⟨kit_ty (by decide +kernel), List.forall_mem_cons.mpr ⟨kit_ty (by decide +kernel), List.forall_mem_cons.mpr ⟨W.far_Depths (.type "dict") (by decide), List.forall_mem_cons.mpr ⟨W.far_Key (.type "dict") (by decide), List.forall_mem_cons.mpr ⟨W.far_System (.type "dict") (by decide), List.forall_mem_cons.mpr ⟨W.far_Crossing (.type "dict") (by decide), List.forall_mem_cons.mpr ⟨W.i_Depths_int, List.forall_mem_cons.mpr ⟨W.i_Depths_bool, List.forall_mem_cons.mpr ⟨W.i_Depths_str, List.forall_mem_cons.mpr ⟨W.i_Depths_list, List.forall_mem_cons.mpr ⟨W.i_Depths_tuple, List.forall_mem_cons.mpr ⟨W.i_Depths_Depths, List.forall_mem_cons.mpr ⟨W.i_Depths_Key, List.forall_mem_cons.mpr ⟨W.i_Depths_System, List.forall_mem_cons.mpr ⟨W.i_Depths_Crossing, List.forall_mem_cons.mpr ⟨W.i_Key_int, List.forall_mem_cons.mpr ⟨W.i_Key_bool, List.forall_mem_cons.mpr ⟨W.i_Key_str, List.forall_mem_cons.mpr ⟨W.i_Key_list, List.forall_mem_cons.mpr ⟨W.i_Key_tuple, List.forall_mem_cons.mpr ⟨W.i_Key_Depths, List.forall_mem_cons.mpr ⟨W.i_Key_Key, List.forall_mem_cons.mpr ⟨W.i_Key_System, List.forall_mem_cons.mpr ⟨W.i_Key_Crossing, List.forall_mem_cons.mpr ⟨W.i_System_int, List.forall_mem_cons.mpr ⟨W.i_System_bool, List.forall_mem_cons.mpr ⟨W.i_System_str, List.forall_mem_cons.mpr ⟨W.i_System_list, List.forall_mem_cons.mpr ⟨W.i_System_tuple, List.forall_mem_cons.mpr ⟨W.i_System_Depths, List.forall_mem_cons.mpr ⟨W.i_System_Key, List.forall_mem_cons.mpr ⟨W.i_System_System, List.forall_mem_cons.mpr ⟨W.i_System_Crossing, List.forall_mem_cons.mpr ⟨W.i_Crossing_int, List.forall_mem_cons.mpr ⟨W.i_Crossing_bool, List.forall_mem_cons.mpr ⟨W.i_Crossing_str, List.forall_mem_cons.mpr ⟨W.i_Crossing_list, List.forall_mem_cons.mpr ⟨W.i_Crossing_tuple, List.forall_mem_cons.mpr ⟨W.i_Crossing_Depths, List.forall_mem_cons.mpr ⟨W.i_Crossing_Key, List.forall_mem_cons.mpr ⟨W.i_Crossing_System, List.forall_mem_cons.mpr ⟨W.i_Crossing_Crossing, fun _ h => nomatch h⟩⟩⟩⟩⟩⟩⟩⟩⟩⟩⟩⟩⟩⟩⟩⟩⟩⟩⟩⟩⟩⟩⟩⟩⟩⟩⟩⟩⟩⟩⟩⟩⟩⟩⟩⟩⟩⟩⟩⟩⟩⟩⟩⟩⟩⟩⟩⟩⟩⟩⟩⟩⟩⟩⟩⟩⟩⟩⟩⟩⟩⟩⟩⟩⟩⟩⟩⟩⟩⟩⟩⟩⟩⟩⟩⟩⟩⟩⟩⟩⟩⟩⟩⟩⟩⟩⟩⟩⟩⟩⟩⟩⟩⟩⟩⟩⟩⟩⟩
theorem fl_depths : ∀ c ∈ flc_depths, Cls K (ga K c) ∧ NoAttr K (ga K c) "depths" := List.forall_mem_cons.mpr ⟨⟨W.k_System.cl, W.o_System_depths⟩, fun _ h => nomatch h⟩
theorem fl_key : ∀ c ∈ flc_key, Cls K (ga K c) ∧ NoAttr K (ga K c) "key" := List.forall_mem_cons.mpr ⟨⟨W.k_Crossing.cl, W.o_Crossing_key⟩, fun _ h => nomatch h⟩
theorem fl_master : ∀ c ∈ flc_master, Cls K (ga K c) ∧ NoAttr K (ga K c) "master" := List.forall_mem_cons.mpr ⟨⟨W.k_System.cl, W.o_System_master⟩, fun _ h => nomatch h⟩
theorem fl_other : ∀ c ∈ flc_other, Cls K (ga K c) ∧ NoAttr K (ga K c) "other" := List.forall_mem_cons.mpr ⟨⟨W.k_Crossing.cl, W.o_Crossing_other⟩, fun _ h => nomatch h⟩
theorem fl_own_cuts : ∀ c ∈ flc_own_cuts, Cls K (ga K c) ∧ NoAttr K (ga K c) "own_cuts" := List.forall_mem_cons.mpr ⟨⟨W.k_Key.cl, W.o_Key_own_cuts⟩, fun _ h => nomatch h⟩
theorem fl_places : ∀ c ∈ flc_places, Cls K (ga K c) ∧ NoAttr K (ga K c) "places" := List.forall_mem_cons.mpr ⟨⟨W.k_Key.cl, W.o_Key_places⟩, List.forall_mem_cons.mpr ⟨⟨W.k_Crossing.cl, W.o_Crossing_places⟩, fun _ h => nomatch h⟩⟩
theorem fl_system : ∀ c ∈ flc_system, Cls K (ga K c) ∧ NoAttr K (ga K c) "system" := List.forall_mem_cons.mpr ⟨⟨W.k_Key.cl, W.o_Key_system⟩, fun _ h => nomatch h⟩
omit W in
theorem sc_BadSystem : FnScope ["self", "part"] ["self", "part"] (defScope s_BadSystem___init__) := ⟨rfl, rfl, rfl, by decide +kernel, rfl, by decide +kernel, by decide +kernel⟩
theorem er_BadSystem : Er1 PySem.Challenge.pw_tenantcuts_k46_crossings_made w K mg base "BadSystem" "part" := by
  obtain ⟨fd, F⟩ := W.f_BadSystem___init__
  refine er1_of (fd := fd) rfl W.g_BadSystem W.er_BadSystem.ox W.m_BadSystem___init__ (F.ok sc_BadSystem (fun vs H Q E h => ?_) (fun cdv A outer s H vs Q E hr h => ⟨_, pss_one (ps_ost (pv 0) (pv 1)), ?_⟩)) (fun_binds F fun _ _ _ _ _ _ us hl => match us, hl with | [_, _], _ => rfl)
  · obtain ⟨a, v, rfl, _⟩ := h
    rfl
  · obtain ⟨a, v, rfl, ha, k⟩ := h
    exact ⟨_, rfl, _, rfl, a, _, rfl, W.er_BadSystem.ox, W.o_BadSystem_part, .inl ⟨ha, fun d nd ne => k d nd ne⟩⟩
omit W in
theorem sc_BadCut : FnScope ["self", "value"] ["self", "value"] (defScope s_BadCut___init__) := ⟨rfl, rfl, rfl, by decide +kernel, rfl, by decide +kernel, by decide +kernel⟩
theorem er_BadCut : Er1 PySem.Challenge.pw_tenantcuts_k46_crossings_made w K mg base "BadCut" "value" := by
  obtain ⟨fd, F⟩ := W.f_BadCut___init__
  refine er1_of (fd := fd) rfl W.g_BadCut W.er_BadCut.ox W.m_BadCut___init__ (F.ok sc_BadCut (fun vs H Q E h => ?_) (fun cdv A outer s H vs Q E hr h => ⟨_, pss_one (ps_ost (pv 0) (pv 1)), ?_⟩)) (fun_binds F fun _ _ _ _ _ _ us hl => match us, hl with | [_, _], _ => rfl)
  · obtain ⟨a, v, rfl, _⟩ := h
    rfl
  · obtain ⟨a, v, rfl, ha, k⟩ := h
    exact ⟨_, rfl, _, rfl, a, _, rfl, W.er_BadCut.ox, W.o_BadCut_value, .inl ⟨ha, fun d nd ne => k d nd ne⟩⟩
omit W in
theorem sc_BadKey : FnScope ["self", "value"] ["self", "value"] (defScope s_BadKey___init__) := ⟨rfl, rfl, rfl, by decide +kernel, rfl, by decide +kernel, by decide +kernel⟩
theorem er_BadKey : Er1 PySem.Challenge.pw_tenantcuts_k46_crossings_made w K mg base "BadKey" "value" := by
  obtain ⟨fd, F⟩ := W.f_BadKey___init__
  refine er1_of (fd := fd) rfl W.g_BadKey W.er_BadKey.ox W.m_BadKey___init__ (F.ok sc_BadKey (fun vs H Q E h => ?_) (fun cdv A outer s H vs Q E hr h => ⟨_, pss_one (ps_ost (pv 0) (pv 1)), ?_⟩)) (fun_binds F fun _ _ _ _ _ _ us hl => match us, hl with | [_, _], _ => rfl)
  · obtain ⟨a, v, rfl, _⟩ := h
    rfl
  · obtain ⟨a, v, rfl, ha, k⟩ := h
    exact ⟨_, rfl, _, rfl, a, _, rfl, W.er_BadKey.ox, W.o_BadKey_value, .inl ⟨ha, fun d nd ne => k d nd ne⟩⟩
omit W in
theorem sc_TooMany : FnScope ["self", "what", "most"] ["self", "what", "most"] (defScope s_TooMany___init__) := ⟨rfl, rfl, rfl, by decide +kernel, rfl, by decide +kernel, by decide +kernel⟩
theorem er_TooMany : Er2 PySem.Challenge.pw_tenantcuts_k46_crossings_made w K mg base "TooMany" "what" "most" := by
  obtain ⟨fd, F⟩ := W.f_TooMany___init__
  refine er2_of (fd := fd) rfl W.g_TooMany W.er_TooMany.ox W.m_TooMany___init__ (F.ok sc_TooMany (fun vs H Q E h => ?_) (fun cdv A outer s H vs Q E hr h => ⟨_, pss_cons (ps_ost (pv 0) (pv 1)) (pss_one (ps_ost (pv 0) (pv 2))), ?_⟩)) (fun_binds F fun _ _ _ _ _ _ us hl => match us, hl with | [_, _, _], _ => rfl)
  · obtain ⟨a, v, u, rfl, _⟩ := h
    rfl
  · obtain ⟨a, v, u, rfl, ha, k⟩ := h
    refine ⟨_, rfl, _, rfl, a, _, rfl, W.er_TooMany.ox, W.o_TooMany_what, .inl ⟨ha, fun d nd ne => ?_⟩⟩
    exact ⟨_, rfl, _, rfl, a, _, rfl, W.er_TooMany.ox, W.o_TooMany_most, .inr ⟨d, _, upd_same, (upd_ne ne).trans upd_same, (by show 1 ≤ 900; decide), k d nd ne⟩⟩
end
section
variable {K : PySem.W.Frag} {mg : Str → Option Value} (W : Wd K mg)
include W
theorem sys_ok : SysIn K := by
  have h : sysB K = true := W.one 0 (f := fun K => sysB K)
  unfold sysB at h
  split at h
  · rename_i o ho
    exact ⟨o, ho, of_decide_eq_true h⟩
  · cases h
omit W in
theorem nfs_Key : PySem.W.notFirst K (ga K "Key") (.ref (ga K "Key")) = true := by
  unfold PySem.W.notFirst
  simp
theorem nf_Key : ∀ t ∈ ts, PySem.W.notFirst K (ga K "Key") (ckV K t) = true := List.forall_mem_cons.mpr ⟨W.nf_Key (.type "NoneType") (by decide), List.forall_mem_cons.mpr ⟨W.nf_Key (.type "bool") (by decide), List.forall_mem_cons.mpr ⟨W.nf_Key (.type "int") (by decide), List.forall_mem_cons.mpr ⟨W.nf_Key (.type "str") (by decide), List.forall_mem_cons.mpr ⟨W.nf_Key (.type "list") (by decide), List.forall_mem_cons.mpr ⟨W.nf_Key (.type "tuple") (by decide), List.forall_mem_cons.mpr ⟨W.nf_Key (.type "dict") (by decide), List.forall_mem_cons.mpr ⟨W.n_Key_Depths, List.forall_mem_cons.mpr ⟨nfs_Key, List.forall_mem_cons.mpr ⟨W.n_Key_System, List.forall_mem_cons.mpr ⟨W.n_Key_Crossing, fun _ h => nomatch h⟩⟩⟩⟩⟩⟩⟩⟩⟩⟩⟩
omit W in
theorem nfs_System : PySem.W.notFirst K (ga K "System") (.ref (ga K "System")) = true := by
  unfold PySem.W.notFirst
  simp
theorem nf_System : ∀ t ∈ ts, PySem.W.notFirst K (ga K "System") (ckV K t) = true := List.forall_mem_cons.mpr ⟨W.nf_System (.type "NoneType") (by decide), List.forall_mem_cons.mpr ⟨W.nf_System (.type "bool") (by decide), List.forall_mem_cons.mpr ⟨W.nf_System (.type "int") (by decide), List.forall_mem_cons.mpr ⟨W.nf_System (.type "str") (by decide), List.forall_mem_cons.mpr ⟨W.nf_System (.type "list") (by decide), List.forall_mem_cons.mpr ⟨W.nf_System (.type "tuple") (by decide), List.forall_mem_cons.mpr ⟨W.nf_System (.type "dict") (by decide), List.forall_mem_cons.mpr ⟨W.n_System_Depths, List.forall_mem_cons.mpr ⟨W.n_System_Key, List.forall_mem_cons.mpr ⟨nfs_System, List.forall_mem_cons.mpr ⟨W.n_System_Crossing, fun _ h => nomatch h⟩⟩⟩⟩⟩⟩⟩⟩⟩⟩⟩
omit W in
theorem nfs_Crossing : PySem.W.notFirst K (ga K "Crossing") (.ref (ga K "Crossing")) = true := by
  unfold PySem.W.notFirst
  simp
theorem nf_Crossing : ∀ t ∈ ts, PySem.W.notFirst K (ga K "Crossing") (ckV K t) = true := List.forall_mem_cons.mpr ⟨W.nf_Crossing (.type "NoneType") (by decide), List.forall_mem_cons.mpr ⟨W.nf_Crossing (.type "bool") (by decide), List.forall_mem_cons.mpr ⟨W.nf_Crossing (.type "int") (by decide), List.forall_mem_cons.mpr ⟨W.nf_Crossing (.type "str") (by decide), List.forall_mem_cons.mpr ⟨W.nf_Crossing (.type "list") (by decide), List.forall_mem_cons.mpr ⟨W.nf_Crossing (.type "tuple") (by decide), List.forall_mem_cons.mpr ⟨W.nf_Crossing (.type "dict") (by decide), List.forall_mem_cons.mpr ⟨W.n_Crossing_Depths, List.forall_mem_cons.mpr ⟨W.n_Crossing_Key, List.forall_mem_cons.mpr ⟨W.n_Crossing_System, List.forall_mem_cons.mpr ⟨nfs_Crossing, fun _ h => nomatch h⟩⟩⟩⟩⟩⟩⟩⟩⟩⟩⟩
end
/-! ## is_whole -/
def g_is_whole : SM := (dRet (dAnd (dCl (isiD cs isT) (dACons (dVar 0) (dACons (dC (.ty "int")) dANil))) (dNot (dCl (isiD cs isT) (dACons (dVar 0) (dACons (dC (.ty "bool")) dANil))))))
def F_is_whole : Fn := bodyF 1 g_is_whole
theorem sc_is_whole : FnScope ["value"] ["value"] (defScope s_is_whole) := ⟨rfl, rfl, rfl, by decide +kernel, rfl, by decide +kernel, by decide +kernel⟩
theorem ok_is_whole {w : World} {K : PySem.W.Frag} {mg : Str → Option Value} {base : Heap} (W : Wd K mg) : ∃ fd, FnOk PySem.Challenge.pw_tenantcuts_k46_crossings_made w K mg base (L2.CX PySem.Challenge.pw_tenantcuts_k46_crossings_made w) 1 (d_is_whole.at_ K) fd ["value"] (spD K 1 F_is_whole) ∧ PySem.W.keepIn K (.ref (d_is_whole.at_ K)) = true ∧ Binds K fd ["value"] [] := by
  obtain ⟨fd, Fd⟩ := W.f_is_whole
  have main := ok_D (k := 0) (P := PySem.Challenge.pw_tenantcuts_k46_crossings_made) (w := w) (mg := mg) (base := base) Fd sc_is_whole (fun cdv A outer s H E hr tk => (ds_one (ds_ret (de_and (de_callB (cd_isi (cs_ok W) (isT_ok W)) rfl W.b_isinstance (by decide +kernel) (da_cons (dv 0) (da_cons (de_ty (n := "int") rfl W.b_int (by decide +kernel)) da_nil))) (de_one (de_not (de_callB (cd_isi (cs_ok W) (isT_ok W)) rfl W.b_isinstance (by decide +kernel) (da_cons (dv 0) (da_cons (de_ty (n := "bool") rfl W.b_bool (by decide +kernel)) da_nil)))))))))
  exact ⟨fd, main, Fd.kp, fun_binds Fd fun _ _ _ _ _ _ us hl => match us, hl with | [_], _ => rfl⟩
/-! ## is_between -/
def g_is_between : SM := (dRet (dAnd (dCall (arP 1 F_is_whole) (dACons (dVar 0) dANil)) (dChain opLe opLe (dVar 1) (dVar 0) (dVar 2))))
def F_is_between : Fn := bodyF 3 g_is_between
theorem sc_is_between : FnScope ["value", "least", "most"] ["value", "least", "most"] (defScope s_is_between) := ⟨rfl, rfl, rfl, by decide +kernel, rfl, by decide +kernel, by decide +kernel⟩
theorem ok_is_between {w : World} {K : PySem.W.Frag} {mg : Str → Option Value} {base : Heap} (W : Wd K mg) : ∃ fd, FnOk PySem.Challenge.pw_tenantcuts_k46_crossings_made w K mg base (L2.CX PySem.Challenge.pw_tenantcuts_k46_crossings_made w) 2 (d_is_between.at_ K) fd ["value", "least", "most"] (spD K 3 F_is_between) ∧ PySem.W.keepIn K (.ref (d_is_between.at_ K)) = true ∧ Binds K fd ["value", "least", "most"] [] := by
  obtain ⟨fd_is_whole, O_is_whole, kp_is_whole, B_is_whole⟩ := ok_is_whole (w := w) (base := base) W
  obtain ⟨fd, Fd⟩ := W.f_is_between
  have main := ok_D (k := 1) (P := PySem.Challenge.pw_tenantcuts_k46_crossings_made) (w := w) (mg := mg) (base := base) Fd sc_is_between (fun cdv A outer s H E hr tk => (ds_one (ds_ret (de_and (de_call (fnE_ok O_is_whole B_is_whole) (hr.mono (Nat.le_of_ble_eq_true rfl)) kp_is_whole rfl W.g_is_whole tk (da_cons (dv 0) da_nil)) (de_one (de_chain od_le od_le (dv 1) (dv 0) (dv 2)))))))
  exact ⟨fd, main, Fd.kp, fun_binds Fd fun _ _ _ _ _ _ us hl => match us, hl with | [_, _, _], _ => rfl⟩
/-! ## need_system -/
def g_need_system : SM := (dIfS (dTNot (dTr (dCl (isiD cs isT) (dACons (dVar 0) (dACons (dC (.cls "Depths")) dANil))))) (dRaise1 "BadSystem" "part" (dC (.str "system"))) dNext)
def F_need_system : Fn := bodyF 1 g_need_system
theorem sc_need_system : FnScope ["system"] ["system"] (defScope s_need_system) := ⟨rfl, rfl, rfl, by decide +kernel, rfl, by decide +kernel, by decide +kernel⟩
theorem ok_need_system {w : World} {K : PySem.W.Frag} {mg : Str → Option Value} {base : Heap} (W : Wd K mg) : ∃ fd, FnOk PySem.Challenge.pw_tenantcuts_k46_crossings_made w K mg base (L2.CX PySem.Challenge.pw_tenantcuts_k46_crossings_made w) 3 (d_need_system.at_ K) fd ["system"] (spD K 1 F_need_system) ∧ PySem.W.keepIn K (.ref (d_need_system.at_ K)) = true ∧ Binds K fd ["system"] [] := by
  obtain ⟨fd, Fd⟩ := W.f_need_system
  have main := ok_D (k := 2) (P := PySem.Challenge.pw_tenantcuts_k46_crossings_made) (w := w) (mg := mg) (base := base) Fd sc_need_system (fun cdv A outer s H E hr tk => (ds_one (ds_if (dt_not (dt_val (de_callB (cd_isi (cs_ok W) (isT_ok W)) rfl W.b_isinstance (by decide +kernel) (da_cons (dv 0) (da_cons (de_cls rfl W.g_Depths) da_nil))))) (ds_one (ds_raise1 rfl (er_BadSystem W) (hr.mono (Nat.le_of_ble_eq_true rfl)) tk rfl de_str))
      ds_nil)))
  exact ⟨fd, main, Fd.kp, fun_binds Fd fun _ _ _ _ _ _ us hl => match us, hl with | [_], _ => rfl⟩
/-! ## Depths.__init__ -/
def g_Depths___init__ : SM := (dSeq (dSetF flc_depths 0 "depths" (dVar 1))
    (dSetF flc_master 0 "master" (dVar 2)))
def F_Depths___init__ : Fn := bodyF 3 g_Depths___init__
theorem sc_Depths___init__ : FnScope ["self", "depths", "master"] ["self", "depths", "master"] (defScope s_Depths___init__) := ⟨rfl, rfl, rfl, by decide +kernel, rfl, by decide +kernel, by decide +kernel⟩
theorem ok_Depths___init__ {w : World} {K : PySem.W.Frag} {mg : Str → Option Value} {base : Heap} (W : Wd K mg) : ∃ fd, FnOk PySem.Challenge.pw_tenantcuts_k46_crossings_made w K mg base (L2.CX PySem.Challenge.pw_tenantcuts_k46_crossings_made w) 1 (d_Depths___init__.at_ K) fd ["self", "depths", "master"] (spD K 3 F_Depths___init__) ∧ PySem.W.keepIn K (.ref (d_Depths___init__.at_ K)) = true ∧ Binds K fd ["self", "depths", "master"] [] := by
  obtain ⟨fd, Fd⟩ := W.f_Depths___init__
  have main := ok_D (k := 0) (P := PySem.Challenge.pw_tenantcuts_k46_crossings_made) (w := w) (mg := mg) (base := base) Fd sc_Depths___init__ (fun cdv A outer s H E hr tk => (ds_cons (ds_setF (i := 0) (cs := flc_depths) rfl (Or.inl rfl) (dv 1) (fl_depths W))
    (ds_one (ds_setF (i := 0) (cs := flc_master) rfl (Or.inl rfl) (dv 2) (fl_master W)))))
  exact ⟨fd, main, Fd.kp, fun_binds Fd fun _ _ _ _ _ _ us hl => match us, hl with | [_, _, _], _ => rfl⟩
/-! ## System.__eq__ -/
def eqT0 : EqT := []
def g_System___eq__ : SM := (dSeq (dIfS (dTNot (dTr (dCl (isiD cs isT) (dACons (dVar 1) (dACons (dC (.cls "System")) dANil))))) (dRet (dC (.bl false))) dNext)
    (dRet (dAnd (dOp (eqO cs ts eqT0 false) (dFld flc_depths "depths" (dVar 0)) (dFld flc_depths "depths" (dVar 1))) (dOp (eqO cs ts eqT0 false) (dFld flc_master "master" (dVar 0)) (dFld flc_master "master" (dVar 1))))))
def F_System___eq__ : Fn := bodyF 2 g_System___eq__
theorem sc_System___eq__ : FnScope ["self", "other"] ["self", "other"] (defScope s_System___eq__) := ⟨rfl, rfl, rfl, by decide +kernel, rfl, by decide +kernel, by decide +kernel⟩
theorem ok_System___eq__ {w : World} {K : PySem.W.Frag} {mg : Str → Option Value} {base : Heap} (W : Wd K mg) : ∃ fd, FnOk PySem.Challenge.pw_tenantcuts_k46_crossings_made w K mg base (L2.CX PySem.Challenge.pw_tenantcuts_k46_crossings_made w) 2 (d_System___eq__.at_ K) fd ["self", "other"] (spD K 2 F_System___eq__) ∧ PySem.W.keepIn K (.ref (d_System___eq__.at_ K)) = true ∧ Binds K fd ["self", "other"] [] := by
  have hT : ∀ e ∈ eqT0, EqOk PySem.Challenge.pw_tenantcuts_k46_crossings_made w K mg base 0 cs ts e.1 e.2 := fun _ h => nomatch h
  obtain ⟨fd, Fd⟩ := W.f_System___eq__
  have main := ok_D (k := 1) (P := PySem.Challenge.pw_tenantcuts_k46_crossings_made) (w := w) (mg := mg) (base := base) Fd sc_System___eq__ (fun cdv A outer s H E hr tk => (ds_cons (ds_if (dt_not (dt_val (de_callB (cd_isi (cs_ok W) (isT_ok W)) rfl W.b_isinstance (by decide +kernel) (da_cons (dv 1) (da_cons (de_cls rfl W.g_System) da_nil))))) (ds_one (ds_ret de_bl))
      ds_nil)
    (ds_one (ds_ret (de_and (de_cmp (od_eqO (hr.units) (hr.mono (Nat.le_of_ble_eq_true rfl)) (cs_ok W) hT) (de_fld (cs := flc_depths) (dv 0) (fl_depths W)) (de_fld (cs := flc_depths) (dv 1) (fl_depths W)) (nomark _)) (de_one (de_cmp (od_eqO (hr.units) (hr.mono (Nat.le_of_ble_eq_true rfl)) (cs_ok W) hT) (de_fld (cs := flc_master) (dv 0) (fl_master W)) (de_fld (cs := flc_master) (dv 1) (fl_master W)) (nomark _))))))))
  exact ⟨fd, main, Fd.kp, fun_binds Fd fun _ _ _ _ _ _ us hl => match us, hl with | [_, _], _ => rfl⟩
/-! ## Key.cuts -/
def g_Key_cuts : SM := (dRet (dFld flc_own_cuts "own_cuts" (dVar 0)))
def F_Key_cuts : Fn := bodyF 1 g_Key_cuts
theorem sc_Key_cuts : FnScope ["self"] ["self"] (defScope s_Key_cuts) := ⟨rfl, rfl, rfl, by decide +kernel, rfl, by decide +kernel, by decide +kernel⟩
theorem ok_Key_cuts {w : World} {K : PySem.W.Frag} {mg : Str → Option Value} {base : Heap} (W : Wd K mg) : ∃ fd, FnOk PySem.Challenge.pw_tenantcuts_k46_crossings_made w K mg base (L2.CX PySem.Challenge.pw_tenantcuts_k46_crossings_made w) 1 (d_Key_cuts.at_ K) fd ["self"] (spD K 1 F_Key_cuts) ∧ PySem.W.keepIn K (.ref (d_Key_cuts.at_ K)) = true ∧ Binds K fd ["self"] [] := by
  obtain ⟨fd, Fd⟩ := W.f_Key_cuts
  have main := ok_D (k := 0) (P := PySem.Challenge.pw_tenantcuts_k46_crossings_made) (w := w) (mg := mg) (base := base) Fd sc_Key_cuts (fun cdv A outer s H E hr tk => (ds_one (ds_ret (de_fld (cs := flc_own_cuts) (dv 0) (fl_own_cuts W)))))
  exact ⟨fd, main, Fd.kp, fun_binds Fd fun _ _ _ _ _ _ us hl => match us, hl with | [_], _ => rfl⟩
/-! ## Key.__init__ -/
def b0_Key___init__ : SM := (dIfS (dTNot (dTr (dCall (arP 3 F_is_between) (dACons (dVar 3) (dACons (dC (.int 0)) (dACons (dOp opSub (dFld flc_depths "depths" (dVar 1)) (dC (.int 1))) dANil)))))) (dRaise1 "BadCut" "value" (dVar 3)) dNext)
def g_Key___init__ : SM := (dSeq (dExpr (dCall (arP 1 F_need_system) (dACons (dVar 1) dANil)))
    (dSeq (dFor (dItT (dVar 2)) (gD 3) b0_Key___init__)
    (dSeq (dIfS (dTb (dOp opGt (dCl lenD (dACons (dVar 2) dANil)) (dC (.int 8000)))) (dRaise2 "TooMany" "what" "most" (dC (.str "places")) (dC (.int 8000))) dNext)
    (dSeq (dSetF flc_system 0 "system" (dVar 1))
    (dSeq (dSetF flc_own_cuts 0 "own_cuts" (dCl tupleD (dACons (dVar 2) dANil)))
    (dSetF flc_places 0 "places" (dCl lenD (dACons (dVar 2) dANil))))))))
def F_Key___init__ : Fn := bodyF 4 g_Key___init__
theorem sc_Key___init__ : FnScope ["self", "system", "cuts", "cut"] ["self", "system", "cuts"] (defScope s_Key___init__) := ⟨rfl, rfl, rfl, by decide +kernel, rfl, by decide +kernel, by decide +kernel⟩
theorem ok_Key___init__ {w : World} {K : PySem.W.Frag} {mg : Str → Option Value} {base : Heap} (W : Wd K mg) : FnE PySem.Challenge.pw_tenantcuts_k46_crossings_made w K mg base 4 (d_Key___init__.at_ K) (arS 2 F_Key___init__) := by
  obtain ⟨fd_is_between, O_is_between, kp_is_between, B_is_between⟩ := ok_is_between (w := w) (base := base) W
  obtain ⟨fd_need_system, O_need_system, kp_need_system, B_need_system⟩ := ok_need_system (w := w) (base := base) W
  obtain ⟨t_MOST_PLACES, e_MOST_PLACES⟩ := W.n_MOST_PLACES
  obtain ⟨fd, Fd⟩ := W.f_Key___init__
  exact fnE_star (k := 3) (ps := ["self", "system"]) (pv := "cuts") Fd sc_Key___init__ (fun kV doc pm an cdv ct us rest hl => (StX.bind_star2 (B := fun l => bindArgs _ ⟨l, []⟩) (fun _ _ => rfl) (fun _ _ _ _ => rfl)) us rest hl) (fun cdv A outer s H E hr tk => (ds_cons (ds_expr (de_call (fnE_ok O_need_system B_need_system) (hr.mono (Nat.le_of_ble_eq_true rfl)) kp_need_system rfl W.g_need_system tk (da_cons (dv 1) da_nil)))
    (ds_cons (ds_for (passes_of rfl) rfl (di_tup (dv 2)) (dg_name (i := 3) sc_Key___init__.nd rfl (Or.inl rfl))
      (ds_one (ds_if (dt_not (dt_val (de_call (fnE_ok O_is_between B_is_between) (hr.mono (Nat.le_of_ble_eq_true rfl)) kp_is_between rfl W.g_is_between tk (da_cons (dv 3) (da_cons de_int (da_cons (de_op od_sub (de_fld (cs := flc_depths) (dv 1) (fl_depths W)) de_int) da_nil)))))) (ds_one (ds_raise1 rfl (er_BadCut W) (hr.mono (Nat.le_of_ble_eq_true rfl)) tk rfl (dv 3)))
      ds_nil)))
    (ds_cons (ds_if (dt_cmp od_gt (de_callB cd_len rfl W.b_len (by decide +kernel) (da_cons (dv 2) da_nil)) (de_gint rfl e_MOST_PLACES) (nomark _)) (ds_one (ds_raise2 rfl (er_TooMany W) (hr.mono (Nat.le_of_ble_eq_true rfl)) tk rfl de_str (de_gint rfl e_MOST_PLACES)))
      ds_nil)
    (ds_cons (ds_setF (i := 0) (cs := flc_system) rfl (Or.inl rfl) (dv 1) (fl_system W))
    (ds_cons (ds_setF (i := 0) (cs := flc_own_cuts) rfl (Or.inl rfl) (de_callTy cd_tuple rfl W.b_tuple (by decide +kernel) (da_cons (dv 2) da_nil)) (fl_own_cuts W))
    (ds_one (ds_setF (i := 0) (cs := flc_places) rfl (Or.inl rfl) (de_callB cd_len rfl W.b_len (by decide +kernel) (da_cons (dv 2) da_nil)) (fl_places W)))))))))
/-! ## Key.of -/
def g_Key_of : SM := (dSeq (dExpr (dCall (arP 1 F_need_system) (dACons (dVar 1) dANil)))
    (dSeq (dIfS (dTNot (dTr (dClS (isiD cs isT) (dAPk 2 (dACons (dTup (dACons (dC (.ty "list")) (dACons (dC (.ty "tuple")) dANil))) dANil))))) (dRaise1 "BadKey" "value" (dVar 2)) dNext)
    (dRet (dMakeL 0 "Key" (arS 2 F_Key___init__) (dACons (dVar 1) (dAStarS 2 dANil))))))
def F_Key_of : Fn := bodyF 3 g_Key_of
theorem sc_Key_of : FnScope ["cls", "system", "cuts"] ["cls", "system", "cuts"] (defScope s_Key_of) := ⟨rfl, rfl, rfl, by decide +kernel, rfl, by decide +kernel, by decide +kernel⟩
theorem ok_Key_of {w : World} {K : PySem.W.Frag} {mg : Str → Option Value} {base : Heap} (W : Wd K mg) : ∃ fd, FnOk PySem.Challenge.pw_tenantcuts_k46_crossings_made w K mg base (L2.CX PySem.Challenge.pw_tenantcuts_k46_crossings_made w) 6 (d_Key_of.at_ K) fd ["cls", "system", "cuts"] (spD K 3 F_Key_of) ∧ PySem.W.keepIn K (.ref (d_Key_of.at_ K)) = true ∧ Binds K fd ["cls", "system", "cuts"] [] := by
  have O_Key___init__ := ok_Key___init__ (w := w) (base := base) W
  obtain ⟨fd_need_system, O_need_system, kp_need_system, B_need_system⟩ := ok_need_system (w := w) (base := base) W
  obtain ⟨fd, Fd⟩ := W.f_Key_of
  have main := ok_D (k := 5) (P := PySem.Challenge.pw_tenantcuts_k46_crossings_made) (w := w) (mg := mg) (base := base) Fd sc_Key_of (fun cdv A outer s H E hr tk => (ds_cons (ds_expr (de_call (fnE_ok O_need_system B_need_system) (hr.mono (Nat.le_of_ble_eq_true rfl)) kp_need_system rfl W.g_need_system tk (da_cons (dv 1) da_nil)))
    (ds_cons (ds_if (dt_not (dt_val (de_callBS (cd_isi (cs_ok W) (isT_ok W)) rfl W.b_isinstance (by decide +kernel) (dvpk 2 (da_cons (de_tup (da_cons (de_ty (n := "list") rfl W.b_list (by decide +kernel)) (da_cons (de_ty (n := "tuple") rfl W.b_tuple (by decide +kernel)) da_nil))) da_nil))))) (ds_one (ds_raise1 rfl (er_BadKey W) (hr.mono (Nat.le_of_ble_eq_true rfl)) tk rfl (dv 2)))
      ds_nil)
    (ds_one (ds_ret (de_makeLS (i := 0) W.x_Key O_Key___init__ (hr.mono (Nat.le_of_ble_eq_true rfl)) rfl (Or.inl rfl) tk (da_cons (dv 1) (dvas 2 da_nil))))))))
  exact ⟨fd, main, Fd.kp, fun_binds Fd fun _ _ _ _ _ _ us hl => match us, hl with | [_, _, _], _ => rfl⟩
/-! ## Key.__eq__ -/
def eqT1 : EqT := [("System", F_System___eq__)]
def g_Key___eq__ : SM := (dRet (dAnd (dCl (isiD cs isT) (dACons (dVar 1) (dACons (dC (.cls "Key")) dANil))) (dAnd (dOp (eqO cs ts eqT1 false) (dFld flc_system "system" (dVar 0)) (dFld flc_system "system" (dVar 1))) (dOp (eqO cs ts eqT1 false) (dProp "Key" F_Key_cuts (dVar 0)) (dProp "Key" F_Key_cuts (dVar 1))))))
def F_Key___eq__ : Fn := bodyF 2 g_Key___eq__
theorem sc_Key___eq__ : FnScope ["self", "other"] ["self", "other"] (defScope s_Key___eq__) := ⟨rfl, rfl, rfl, by decide +kernel, rfl, by decide +kernel, by decide +kernel⟩
theorem ok_Key___eq__ {w : World} {K : PySem.W.Frag} {mg : Str → Option Value} {base : Heap} (W : Wd K mg) : ∃ fd, FnOk PySem.Challenge.pw_tenantcuts_k46_crossings_made w K mg base (L2.CX PySem.Challenge.pw_tenantcuts_k46_crossings_made w) 4 (d_Key___eq__.at_ K) fd ["self", "other"] (spD K 2 F_Key___eq__) ∧ PySem.W.keepIn K (.ref (d_Key___eq__.at_ K)) = true ∧ Binds K fd ["self", "other"] [] := by
  obtain ⟨fd_Key_cuts, O_Key_cuts, kp_Key_cuts, B_Key_cuts⟩ := ok_Key_cuts (w := w) (base := base) W
  obtain ⟨fd_System___eq__, O_System___eq__, kp_System___eq__, B_System___eq__⟩ := ok_System___eq__ (w := w) (base := base) W
  have hT : ∀ e ∈ eqT1, EqOk PySem.Challenge.pw_tenantcuts_k46_crossings_made w K mg base 2 cs ts e.1 e.2 := List.forall_mem_cons.mpr ⟨⟨⟨_, _, _, W.q_System, rfl, O_System___eq__.mono (Nat.le_of_ble_eq_true rfl), B_System___eq__⟩, nf_System W⟩, fun _ h => nomatch h⟩
  obtain ⟨fd, Fd⟩ := W.f_Key___eq__
  have main := ok_D (k := 3) (P := PySem.Challenge.pw_tenantcuts_k46_crossings_made) (w := w) (mg := mg) (base := base) Fd sc_Key___eq__ (fun cdv A outer s H E hr tk => (ds_one (ds_ret (de_and (de_callB (cd_isi (cs_ok W) (isT_ok W)) rfl W.b_isinstance (by decide +kernel) (da_cons (dv 1) (da_cons (de_cls rfl W.g_Key) da_nil))) (de_and (de_cmp (od_eqO (hr.units) (hr.mono (Nat.le_of_ble_eq_true rfl)) (cs_ok W) hT) (de_fld (cs := flc_system) (dv 0) (fl_system W)) (de_fld (cs := flc_system) (dv 1) (fl_system W)) (nomark _)) (de_one (de_cmp (od_eqO (hr.units) (hr.mono (Nat.le_of_ble_eq_true rfl)) (cs_ok W) hT) (de_prop (c := "Key") (dv 0) W.k_Key.cl W.p_Key_cuts O_Key_cuts rfl (hr.mono (Nat.le_of_ble_eq_true rfl)) B_Key_cuts) (de_prop (c := "Key") (dv 1) W.k_Key.cl W.p_Key_cuts O_Key_cuts rfl (hr.mono (Nat.le_of_ble_eq_true rfl)) B_Key_cuts) (nomark _))))))))
  exact ⟨fd, main, Fd.kp, fun_binds Fd fun _ _ _ _ _ _ us hl => match us, hl with | [_, _], _ => rfl⟩
/-! ## Key.__str__ -/
def eqT2 : EqT := [("System", F_System___eq__), ("Key", F_Key___eq__)]
def strT0 : EqT := []
def t0_Key___str__ : EM Bool := (EM.ret true)
def e0_Key___str__ : EM Sl := (dCl (strO strT0) (dACons (dVar 1) dANil))
def g_Key___str__ : SM := (dSeq (dIfS (dTb (dOp (eqO cs ts eqT2 false) (dFld flc_places "places" (dVar 0)) (dC (.int 0)))) (dRet (dC (.str "."))) dNext)
    (dRet (dBm isStr joinD (dC (.str "-")) (dACons (dLc (dItT (dProp "Key" F_Key_cuts (dVar 0))) (gD 1) t0_Key___str__ e0_Key___str__ [1]) dANil))))
def F_Key___str__ : Fn := bodyF 2 g_Key___str__
theorem sc_Key___str__ : FnScope ["self", "cut"] ["self"] (defScope s_Key___str__) := ⟨rfl, rfl, rfl, by decide +kernel, rfl, by decide +kernel, by decide +kernel⟩
theorem ok_Key___str__ {w : World} {K : PySem.W.Frag} {mg : Str → Option Value} {base : Heap} (W : Wd K mg) : ∃ fd, FnOk PySem.Challenge.pw_tenantcuts_k46_crossings_made w K mg base (L2.CX PySem.Challenge.pw_tenantcuts_k46_crossings_made w) 6 (d_Key___str__.at_ K) fd ["self"] (spD K 1 F_Key___str__) ∧ PySem.W.keepIn K (.ref (d_Key___str__.at_ K)) = true ∧ Binds K fd ["self"] [] := by
  obtain ⟨fd_Key_cuts, O_Key_cuts, kp_Key_cuts, B_Key_cuts⟩ := ok_Key_cuts (w := w) (base := base) W
  obtain ⟨fd_System___eq__, O_System___eq__, kp_System___eq__, B_System___eq__⟩ := ok_System___eq__ (w := w) (base := base) W
  obtain ⟨fd_Key___eq__, O_Key___eq__, kp_Key___eq__, B_Key___eq__⟩ := ok_Key___eq__ (w := w) (base := base) W
  have hT : ∀ e ∈ eqT2, EqOk PySem.Challenge.pw_tenantcuts_k46_crossings_made w K mg base 4 cs ts e.1 e.2 := List.forall_mem_cons.mpr ⟨⟨⟨_, _, _, W.q_System, rfl, O_System___eq__.mono (Nat.le_of_ble_eq_true rfl), B_System___eq__⟩, nf_System W⟩, List.forall_mem_cons.mpr ⟨⟨⟨_, _, _, W.q_Key, rfl, O_Key___eq__.mono (Nat.le_of_ble_eq_true rfl), B_Key___eq__⟩, nf_Key W⟩, fun _ h => nomatch h⟩⟩
  have hS : ∀ e ∈ strT0, StrOk PySem.Challenge.pw_tenantcuts_k46_crossings_made w K mg base 0 e.1 e.2 := fun _ h => nomatch h
  obtain ⟨fd, Fd⟩ := W.f_Key___str__
  have main := ok_D (k := 5) (P := PySem.Challenge.pw_tenantcuts_k46_crossings_made) (w := w) (mg := mg) (base := base) Fd sc_Key___str__ (fun cdv A outer s H E hr tk => (ds_cons (ds_if (dt_cmp (od_eqO (hr.units) (hr.mono (Nat.le_of_ble_eq_true rfl)) (cs_ok W) hT) (de_fld (cs := flc_places) (dv 0) (fl_places W)) de_int (nomark _)) (ds_one (ds_ret de_str))
      ds_nil)
    (ds_one (ds_ret (de_bm PySem.F.plainAttrs_str PySem.F.slot_str_join PySem.F.type_str_join mt_join md_join ty_str de_str (da_cons (de_lc (own := [("cut", 1)]) rfl sc_Key___str__.nd (di_tup (de_prop (c := "Key") (dv 0) W.k_Key.cl W.p_Key_cuts O_Key_cuts rfl (hr.mono (Nat.le_of_ble_eq_true rfl)) B_Key_cuts)) (blkOk_by (N := ["self", "cut"]) (sc := defScope s_Key___str__) (by decide +kernel)) (by decide) (fun _ _ _ _ _ => (dg_name (i := 1) sc_Key___str__.nd rfl (Or.inl rfl))) (fun _ _ _ _ _ => dt_yes) (fun _ _ _ _ _ => (de_callTy (cd_str (hr.mono (Nat.le_of_ble_eq_true rfl)) hS) rfl W.b_str (by decide +kernel) (da_cons (dv 1) da_nil)))) da_nil))))))
  exact ⟨fd, main, Fd.kp, fun_binds Fd fun _ _ _ _ _ _ us hl => match us, hl with | [_], _ => rfl⟩
/-! ## System.__init__ -/
def g_System___init__ : SM := (dSeq (dIfS (dTNot (dTr (dCall (arP 3 F_is_between) (dACons (dVar 1) (dACons (dC (.int 2)) (dACons (dC (.int 6)) dANil)))))) (dRaise1 "BadSystem" "part" (dC (.str "depths"))) dNext)
    (dSeq (dIfS (dTNot (dTr (dCall (arP 3 F_is_between) (dACons (dVar 2) (dACons (dC (.int 0)) (dACons (dOp opSub (dVar 1) (dC (.int 1))) dANil)))))) (dRaise1 "BadSystem" "part" (dC (.str "master"))) dNext)
    (dSup "System" 3 F_Depths___init__ (dACons (dVar 1) (dACons (dVar 2) dANil)))))
def F_System___init__ : Fn := bodyF 3 g_System___init__
theorem sc_System___init__ : SupScope ["self", "depths", "master"] ["self", "depths", "master"] (defScope s_System___init__) := ⟨rfl, rfl, rfl, by decide +kernel, rfl, by decide +kernel, by decide +kernel, by decide +kernel⟩
theorem ok_System___init__ {w : World} {K : PySem.W.Frag} {mg : Str → Option Value} {base : Heap} (W : Wd K mg) : ∃ fd, FnOk PySem.Challenge.pw_tenantcuts_k46_crossings_made w K mg base (L2.CX PySem.Challenge.pw_tenantcuts_k46_crossings_made w) 3 (d_System___init__.at_ K) fd ["self", "depths", "master"] (spD K 3 F_System___init__) ∧ PySem.W.keepIn K (.ref (d_System___init__.at_ K)) = true ∧ Binds K fd ["self", "depths", "master"] [] ∧ FnE PySem.Challenge.pw_tenantcuts_k46_crossings_made w K mg base 3 (d_System___init__.at_ K) (arD 3 [(.int 0)] F_System___init__) := by
  obtain ⟨fd_is_between, O_is_between, kp_is_between, B_is_between⟩ := ok_is_between (w := w) (base := base) W
  obtain ⟨fd_Depths___init__, O_Depths___init__, kp_Depths___init__, B_Depths___init__⟩ := ok_Depths___init__ (w := w) (base := base) W
  have OU : FnOk PySem.Challenge.pw_tenantcuts_k46_crossings_made w K mg base (L2.CX PySem.Challenge.pw_tenantcuts_k46_crossings_made w) 1 (upA K (ga K "System") (ga K "System") "__init__") fd_Depths___init__ ["self", "depths", "master"] (spD K 3 F_Depths___init__) := by
    rw [W.ua_System___init___System]
    exact O_Depths___init__
  obtain ⟨fd, Fd, kp⟩ := W.f_System___init__
  have main := ok_DC (k := 2) (P := PySem.Challenge.pw_tenantcuts_k46_crossings_made) (w := w) (mg := mg) (base := base) Fd sc_System___init__ (fun A outer s H E hr tk => (cds_cons (ds_if (dt_not (dt_val (de_call (fnE_ok O_is_between B_is_between) (hr.mono (Nat.le_of_ble_eq_true rfl)) kp_is_between rfl W.g_is_between tk (da_cons (dv 1) (da_cons de_int (da_cons de_int da_nil)))))) (ds_one (ds_raise1 rfl (er_BadSystem W) (hr.mono (Nat.le_of_ble_eq_true rfl)) tk rfl de_str))
      ds_nil)
    (cds_cons (ds_if (dt_not (dt_val (de_call (fnE_ok O_is_between B_is_between) (hr.mono (Nat.le_of_ble_eq_true rfl)) kp_is_between rfl W.g_is_between tk (da_cons (dv 2) (da_cons de_int (da_cons (de_op od_sub (dv 1) de_int) da_nil)))))) (ds_one (ds_raise1 rfl (er_BadSystem W) (hr.mono (Nat.le_of_ble_eq_true rfl)) tk rfl de_str))
      ds_nil)
    (cds_sup (scope := defScope s_System___init__) (F := F_Depths___init__) W.u_System___init___System rfl rfl rfl rfl W.b_super rfl rfl (da_cons (dv 1) (da_cons (dv 2) da_nil)) OU (hr.mono (Nat.le_of_ble_eq_true rfl)) B_Depths___init__))))
  obtain ⟨ds0, r0, b0⟩ := Fd.binds1 (ps := ["self", "depths", "master"]) 3 1 (fun h => nomatch h) rfl (fun T kV doc pm an cdv ct us its l1 l2 => match us, its, l1, l2 with | [_, _, _], [_], _, _ => ⟨_, rfl, rfl⟩)
  cases r0
  obtain ⟨ds1, r1, b1⟩ := Fd.binds1 (ps := ["self", "depths", "master"]) 2 0 (fun h => nomatch h) rfl (fun T kV doc pm an cdv ct us its l1 l2 => match us, its, l1, l2 with | [_, _], [_], _, _ => ⟨_, rfl, rfl⟩)
  exact ⟨fd, main, kp, b0, fnE_dfl main b1 r1 (fun _ => .cons (.int _) (.nil))⟩
/-! ## Crossing.__init__ -/
def g_Crossing___init__ : SM := (dSeq (dSetF flc_key 0 "key" (dVar 1))
    (dSeq (dSetF flc_other 0 "other" (dVar 2))
    (dSetF flc_places 0 "places" (dIfE (dTr (dCl (isiD cs isT) (dACons (dVar 1) (dACons (dC (.cls "Key")) dANil)))) (dFld flc_places "places" (dVar 1)) (dC .non)))))
def F_Crossing___init__ : Fn := bodyF 3 g_Crossing___init__
theorem sc_Crossing___init__ : FnScope ["self", "key", "other"] ["self", "key", "other"] (defScope s_Crossing___init__) := ⟨rfl, rfl, rfl, by decide +kernel, rfl, by decide +kernel, by decide +kernel⟩
theorem ok_Crossing___init__ {w : World} {K : PySem.W.Frag} {mg : Str → Option Value} {base : Heap} (W : Wd K mg) : ∃ fd, FnOk PySem.Challenge.pw_tenantcuts_k46_crossings_made w K mg base (L2.CX PySem.Challenge.pw_tenantcuts_k46_crossings_made w) 1 (d_Crossing___init__.at_ K) fd ["self", "key", "other"] (spD K 3 F_Crossing___init__) ∧ PySem.W.keepIn K (.ref (d_Crossing___init__.at_ K)) = true ∧ Binds K fd ["self", "key", "other"] [] ∧ KBn K fd ["self", "key", "other"] 1 ["other", "key"] (fun us ws => gP [1, 0] us ws) (fun vs zs => gP [1, 0] vs zs) := by
  obtain ⟨fd, Fd⟩ := W.f_Crossing___init__
  have main := ok_D (k := 0) (P := PySem.Challenge.pw_tenantcuts_k46_crossings_made) (w := w) (mg := mg) (base := base) Fd sc_Crossing___init__ (fun cdv A outer s H E hr tk => (ds_cons (ds_setF (i := 0) (cs := flc_key) rfl (Or.inl rfl) (dv 1) (fl_key W))
    (ds_cons (ds_setF (i := 0) (cs := flc_other) rfl (Or.inl rfl) (dv 2) (fl_other W))
    (ds_one (ds_setF (i := 0) (cs := flc_places) rfl (Or.inl rfl) (de_ifExp (dt_val (de_callB (cd_isi (cs_ok W) (isT_ok W)) rfl W.b_isinstance (by decide +kernel) (da_cons (dv 1) (da_cons (de_cls rfl W.g_Key) da_nil)))) (de_fld (cs := flc_places) (dv 1) (fl_places W)) de_non) (fl_places W))))))
  exact ⟨fd, main, Fd.kp, fun_binds Fd fun _ _ _ _ _ _ us hl => match us, hl with | [_, _, _], _ => rfl, fun_kbinds Fd 1 ["other", "key"] (fun us ws => gP [1, 0] us ws) (fun r1 r2 => gP_rel r1 r2) (fun _ _ _ _ _ _ us ws l1 l2 => match us, ws, l1, l2 with | [_], [_, _], _, _ => rfl)⟩
/-! ## Crossing.__eq__ -/
def g_Crossing___eq__ : SM := (dRet (dAnd (dCl (isiD cs isT) (dACons (dVar 1) (dACons (dC (.cls "Crossing")) dANil))) (dAnd (dOp (eqX cs ts eqT2) (dFld flc_key "key" (dVar 0)) (dFld flc_key "key" (dVar 1))) (dOp (eqX cs ts eqT2) (dFld flc_other "other" (dVar 0)) (dFld flc_other "other" (dVar 1))))))
def F_Crossing___eq__ : Fn := bodyF 2 g_Crossing___eq__
theorem sc_Crossing___eq__ : FnScope ["self", "thing"] ["self", "thing"] (defScope s_Crossing___eq__) := ⟨rfl, rfl, rfl, by decide +kernel, rfl, by decide +kernel, by decide +kernel⟩
theorem ok_Crossing___eq__ {w : World} {K : PySem.W.Frag} {mg : Str → Option Value} {base : Heap} (W : Wd K mg) : ∃ fd, FnOk PySem.Challenge.pw_tenantcuts_k46_crossings_made w K mg base (L2.CX PySem.Challenge.pw_tenantcuts_k46_crossings_made w) 6 (d_Crossing___eq__.at_ K) fd ["self", "thing"] (spD K 2 F_Crossing___eq__) ∧ PySem.W.keepIn K (.ref (d_Crossing___eq__.at_ K)) = true ∧ Binds K fd ["self", "thing"] [] := by
  obtain ⟨fd_System___eq__, O_System___eq__, kp_System___eq__, B_System___eq__⟩ := ok_System___eq__ (w := w) (base := base) W
  obtain ⟨fd_Key___eq__, O_Key___eq__, kp_Key___eq__, B_Key___eq__⟩ := ok_Key___eq__ (w := w) (base := base) W
  have hT : ∀ e ∈ eqT2, EqOk PySem.Challenge.pw_tenantcuts_k46_crossings_made w K mg base 4 cs ts e.1 e.2 := List.forall_mem_cons.mpr ⟨⟨⟨_, _, _, W.q_System, rfl, O_System___eq__.mono (Nat.le_of_ble_eq_true rfl), B_System___eq__⟩, nf_System W⟩, List.forall_mem_cons.mpr ⟨⟨⟨_, _, _, W.q_Key, rfl, O_Key___eq__.mono (Nat.le_of_ble_eq_true rfl), B_Key___eq__⟩, nf_Key W⟩, fun _ h => nomatch h⟩⟩
  have hB : ∀ e ∈ eqT2, ∀ t ∈ bts, PySem.W.subIn K (.ref (ga K e.1)) (.type t) = some false := List.forall_mem_cons.mpr ⟨W.sb_System, List.forall_mem_cons.mpr ⟨W.sb_Key, fun _ h => nomatch h⟩⟩
  obtain ⟨fd, Fd⟩ := W.f_Crossing___eq__
  have main := ok_D (k := 5) (P := PySem.Challenge.pw_tenantcuts_k46_crossings_made) (w := w) (mg := mg) (base := base) Fd sc_Crossing___eq__ (fun cdv A outer s H E hr tk => (ds_one (ds_ret (de_and (de_callB (cd_isi (cs_ok W) (isT_ok W)) rfl W.b_isinstance (by decide +kernel) (da_cons (dv 1) (da_cons (de_cls rfl W.g_Crossing) da_nil))) (de_and (de_cmp (od_eqX (hr.units) (hr.mono (Nat.le_of_ble_eq_true rfl)) (cs_ok W) hT hB) (de_fld (cs := flc_key) (dv 0) (fl_key W)) (de_fld (cs := flc_key) (dv 1) (fl_key W)) (nomark _)) (de_one (de_cmp (od_eqX (hr.units) (hr.mono (Nat.le_of_ble_eq_true rfl)) (cs_ok W) hT hB) (de_fld (cs := flc_other) (dv 0) (fl_other W)) (de_fld (cs := flc_other) (dv 1) (fl_other W)) (nomark _))))))))
  exact ⟨fd, main, Fd.kp, fun_binds Fd fun _ _ _ _ _ _ us hl => match us, hl with | [_, _], _ => rfl⟩
/-! ## Crossing.__str__ -/
def strT1 : EqT := [("Key", arP 1 F_Key___str__)]
def g_Crossing___str__ : SM := (dRet (joinF [(dUn (fmtO strT1) (dFld flc_key "key" (dVar 0))), (dC (.str " opens ")), (dUn (fmtO strT1) (dFld flc_other "other" (dVar 0)))] Str.empty))
def F_Crossing___str__ : Fn := bodyF 1 g_Crossing___str__
theorem sc_Crossing___str__ : FnScope ["self"] ["self"] (defScope s_Crossing___str__) := ⟨rfl, rfl, rfl, by decide +kernel, rfl, by decide +kernel, by decide +kernel⟩
theorem ok_Crossing___str__ {w : World} {K : PySem.W.Frag} {mg : Str → Option Value} {base : Heap} (W : Wd K mg) : ∃ fd, FnOk PySem.Challenge.pw_tenantcuts_k46_crossings_made w K mg base (L2.CX PySem.Challenge.pw_tenantcuts_k46_crossings_made w) 9 (d_Crossing___str__.at_ K) fd ["self"] (spD K 1 F_Crossing___str__) ∧ PySem.W.keepIn K (.ref (d_Crossing___str__.at_ K)) = true ∧ Binds K fd ["self"] [] := by
  obtain ⟨fd_Key___str__, O_Key___str__, kp_Key___str__, B_Key___str__⟩ := ok_Key___str__ (w := w) (base := base) W
  have hF : ∀ e ∈ strT1, FmtOk PySem.Challenge.pw_tenantcuts_k46_crossings_made w K mg base 6 e.1 e.2 := List.forall_mem_cons.mpr ⟨⟨⟨_, W.fm_Key, (fnE_ok O_Key___str__ B_Key___str__).mono (Nat.le_of_ble_eq_true rfl)⟩⟩, fun _ h => nomatch h⟩
  obtain ⟨fd, Fd⟩ := W.f_Crossing___str__
  have main := ok_D (k := 8) (P := PySem.Challenge.pw_tenantcuts_k46_crossings_made) (w := w) (mg := mg) (base := base) Fd sc_Crossing___str__ (fun cdv A outer s H E hr tk => (ds_one (ds_ret (de_joined (.cons (de_fmtO (hr.mono (Nat.le_of_ble_eq_true rfl)) hF (de_fld (cs := flc_key) (dv 0) (fl_key W))) (.cons de_str (.cons (de_fmtO (hr.mono (Nat.le_of_ble_eq_true rfl)) hF (de_fld (cs := flc_other) (dv 0) (fl_other W))) .nil)))))))
  exact ⟨fd, main, Fd.kp, fun_binds Fd fun _ _ _ _ _ _ us hl => match us, hl with | [_], _ => rfl⟩
/-! ## _law_pen -/
def g__law_pen : SM := (dRet (dLst (dACons (dCl listD (dACons (dSl (dVar 0) dONone (dOSome (dC (.int 63)))) dANil)) (dACons (dC (.int 0)) (dACons (dC (.int 0)) dANil)))))
def F__law_pen : Fn := bodyF 1 g__law_pen
theorem sc__law_pen : FnScope ["_law_script"] ["_law_script"] (defScope s__law_pen) := ⟨rfl, rfl, rfl, by decide +kernel, rfl, by decide +kernel, by decide +kernel⟩
theorem ok__law_pen {w : World} {K : PySem.W.Frag} {mg : Str → Option Value} {base : Heap} (W : Wd K mg) : ∃ fd, FnG PySem.Challenge.pw_tenantcuts_k46_crossings_made w K mg base (L2.CX PySem.Challenge.pw_tenantcuts_k46_crossings_made w) 1 (d__law_pen.at_ K) fd ["_law_script"] (spD K 1 F__law_pen) ∧ PySem.W.keepIn K (.ref (d__law_pen.at_ K)) = true ∧ Binds K fd ["_law_script"] [] := by
  obtain ⟨fd, Fd⟩ := W.f__law_pen
  have main := ok_GD (k := 0) (P := PySem.Challenge.pw_tenantcuts_k46_crossings_made) (w := w) (mg := mg) (base := base) Fd sc__law_pen (fun cdv A outer s H E gd hr tk => (ds_one (ds_ret (de_lst (da_cons (de_callTy cd_list rfl W.b_list (by decide +kernel) (da_cons (de_sl (dv 0) do_none (do_some de_int)) da_nil)) (da_cons de_int (da_cons de_int da_nil)))))))
  exact ⟨fd, main, Fd.kp, fun_binds Fd fun _ _ _ _ _ _ us hl => match us, hl with | [_], _ => rfl⟩
/-! ## _law_draw -/
def eqT3 : EqT := [("System", F_System___eq__), ("Key", F_Key___eq__), ("Crossing", F_Crossing___eq__)]
def g__law_draw : SM := (dSeq (dIfS (dTb (dOp opGt (dIxS 0 (dC (.int 2))) (dC (.int 0)))) (dSeq (dSet 2 (dOp opMod (dCl intD (dACons (dIxS 0 (dC (.int 2))) dANil)) (dVar 1)))
    (dSeq (dSetIx 0 (dOp opFdiv (dCl intD (dACons (dIxS 0 (dC (.int 2))) dANil)) (dVar 1)) (dC (.int 2)))
    (dRet (dVar 2)))) dNext)
    (dSeq (dSet 3 (dIxS 0 (dC (.int 1))))
    (dSeq (dSetIx 0 (dOp opAdd (dVar 3) (dC (.int 1))) (dC (.int 1)))
    (dSeq (dSet 4 (dOp opAdd (dOp opMulA (dC (.int 48069)) (dVar 3)) (dC (.int 1645))))
    (dSeq (dIfS (dTb (dOp (eqO cs ts eqT3 true) (dIxS 0 (dC (.int 0))) (dLst dANil))) (dSet 4 (dOp ixD (dIxS 0 (dC (.int 0))) (dOp opMod (dCl intD (dACons (dVar 3) dANil)) (dCl lenD (dACons (dIxS 0 (dC (.int 0))) dANil))))) dNext)
    (dSeq (dIfS (dTAnd (dTb (dOp opLt (dVar 3) (dCl lenD (dACons (dIxS 0 (dC (.int 0))) dANil)))) (dTb (dOp opGe (dCl absD (dACons (dVar 4) dANil)) (dOp opPow (dC (.int 10)) (dC (.int 18)))))) (dSeq (dSet 5 (dOp opAdd (dOp opMulA (dC (.int 2)) (dOp opSub (dCl absD (dACons (dVar 4) dANil)) (dOp opPow (dC (.int 10)) (dC (.int 18))))) (dCl intD (dACons (dOp opLt (dVar 4) (dC (.int 0))) dANil))))
    (dSeq (dSetIx 0 (dOp opFdiv (dCl intD (dACons (dVar 5) dANil)) (dVar 1)) (dC (.int 2)))
    (dRet (dOp opMod (dCl intD (dACons (dVar 5) dANil)) (dVar 1))))) dNext)
    (dSeq (dSet 6 (dOp opMod (dCl intD (dACons (dOp opPow (dOp opAdd (dOp opAdd (dOp opMod (dCl intD (dACons (dVar 4) dANil)) (dC (.int 2147483563))) (dOp opMulA (dC (.int 53711)) (dVar 3))) (dC (.int 147))) (dC (.int 5))) dANil)) (dC (.int 2147483629))))
    (dSeq (dSet 6 (dOp opMod (dCl intD (dACons (dOp opPow (dOp opAdd (dOp opAdd (dOp opMulA (dVar 6) (dOp opAdd (dOp opMulA (dC (.int 2)) (dVar 3)) (dC (.int 297)))) (dOp opMulA (dOp opMulA (dC (.int 42447)) (dVar 3)) (dVar 3))) (dC (.int 17))) (dC (.int 3))) dANil)) (dC (.int 2147483549))))
    (dRet (dOp opMod (dCl intD (dACons (dOp opFdiv (dVar 6) (dC (.int 32))) dANil)) (dVar 1)))))))))))
def F__law_draw : Fn := bodyF 7 g__law_draw
theorem sc__law_draw : FnScope ["_law_pen_here", "_law_many", "_law_digit", "_law_at", "_law_cell", "_law_great", "_law_mixed"] ["_law_pen_here", "_law_many"] (defScope s__law_draw) := ⟨rfl, rfl, rfl, by decide +kernel, rfl, by decide +kernel, by decide +kernel⟩
theorem ok__law_draw {w : World} {K : PySem.W.Frag} {mg : Str → Option Value} {base : Heap} (W : Wd K mg) : ∃ fd, FnG PySem.Challenge.pw_tenantcuts_k46_crossings_made w K mg base (L2.CX PySem.Challenge.pw_tenantcuts_k46_crossings_made w) 8 (d__law_draw.at_ K) fd ["_law_pen_here", "_law_many"] (spD K 2 F__law_draw) ∧ PySem.W.keepIn K (.ref (d__law_draw.at_ K)) = true ∧ Binds K fd ["_law_pen_here", "_law_many"] [] := by
  obtain ⟨fd_System___eq__, O_System___eq__, kp_System___eq__, B_System___eq__⟩ := ok_System___eq__ (w := w) (base := base) W
  obtain ⟨fd_Key___eq__, O_Key___eq__, kp_Key___eq__, B_Key___eq__⟩ := ok_Key___eq__ (w := w) (base := base) W
  obtain ⟨fd_Crossing___eq__, O_Crossing___eq__, kp_Crossing___eq__, B_Crossing___eq__⟩ := ok_Crossing___eq__ (w := w) (base := base) W
  have hT : ∀ e ∈ eqT3, EqOk PySem.Challenge.pw_tenantcuts_k46_crossings_made w K mg base 6 cs ts e.1 e.2 := List.forall_mem_cons.mpr ⟨⟨⟨_, _, _, W.q_System, rfl, O_System___eq__.mono (Nat.le_of_ble_eq_true rfl), B_System___eq__⟩, nf_System W⟩, List.forall_mem_cons.mpr ⟨⟨⟨_, _, _, W.q_Key, rfl, O_Key___eq__.mono (Nat.le_of_ble_eq_true rfl), B_Key___eq__⟩, nf_Key W⟩, List.forall_mem_cons.mpr ⟨⟨⟨_, _, _, W.q_Crossing, rfl, O_Crossing___eq__.mono (Nat.le_of_ble_eq_true rfl), B_Crossing___eq__⟩, nf_Crossing W⟩, fun _ h => nomatch h⟩⟩⟩
  obtain ⟨fd, Fd⟩ := W.f__law_draw
  have main := ok_GD (k := 7) (P := PySem.Challenge.pw_tenantcuts_k46_crossings_made) (w := w) (mg := mg) (base := base) Fd sc__law_draw (fun cdv A outer s H E gd hr tk => (ds_cons (ds_if (dt_cmp od_gt (dvix 0 de_int (fun _ _ => rfl)) de_int (nomark _)) (ds_cons (ds_set (i := 2) sc__law_draw.nd rfl (Or.inl rfl) (de_op od_mod (de_callTy cd_int rfl W.b_int (by decide +kernel) (da_cons (dvix 0 de_int (fun _ _ => rfl)) da_nil)) (dv 1)))
    (ds_cons (ds_setIx (i := 0) rfl (Or.inl rfl) (de_op od_fdiv (de_callTy cd_int rfl W.b_int (by decide +kernel) (da_cons (dvix 0 de_int (fun _ _ => rfl)) da_nil)) (dv 1)) de_int)
    (ds_one (ds_ret (dv 2)))))
      ds_nil)
    (ds_cons (ds_set (i := 3) sc__law_draw.nd rfl (Or.inl rfl) (dvix 0 de_int (fun _ _ => rfl)))
    (ds_cons (ds_setIx (i := 0) rfl (Or.inl rfl) (de_op od_add (dv 3) de_int) de_int)
    (ds_cons (ds_set (i := 4) sc__law_draw.nd rfl (Or.inl rfl) (de_op od_add (de_op od_mulA de_int (dv 3)) de_int))
    (ds_cons (ds_if (dt_cmp (od_neO (hr.units) (hr.mono (Nat.le_of_ble_eq_true rfl)) (cs_ok W) hT) (dvix 0 de_int (fun _ _ => rfl)) (de_lst da_nil) (nomark _)) (ds_one (ds_set (i := 4) sc__law_draw.nd rfl (Or.inl rfl) (de_ix (dvix 0 de_int (fun _ _ => rfl)) (de_op od_mod (de_callTy cd_int rfl W.b_int (by decide +kernel) (da_cons (dv 3) da_nil)) (de_callB cd_len rfl W.b_len (by decide +kernel) (da_cons (dvix 0 de_int (fun _ _ => rfl)) da_nil))) (fun _ _ => rfl))))
      ds_nil)
    (ds_cons (ds_if (PW.pt (dw_and (dt_cmp od_lt (dv 3) (de_callB cd_len rfl W.b_len (by decide +kernel) (da_cons (dvix 0 de_int (fun _ _ => rfl)) da_nil)) (nomark _)) (dw_and1 (dt_cmp od_ge (de_callB cd_abs rfl W.b_abs (by decide +kernel) (da_cons (dv 4) da_nil)) (de_op od_pow de_int de_int) (nomark _))))) (ds_cons (ds_set (i := 5) sc__law_draw.nd rfl (Or.inl rfl) (de_op od_add (de_op od_mulA de_int (de_op od_sub (de_callB cd_abs rfl W.b_abs (by decide +kernel) (da_cons (dv 4) da_nil)) (de_op od_pow de_int de_int))) (de_callTy cd_int rfl W.b_int (by decide +kernel) (da_cons (de_cmp od_lt (dv 4) de_int (nomark _)) da_nil))))
    (ds_cons (ds_setIx (i := 0) rfl (Or.inl rfl) (de_op od_fdiv (de_callTy cd_int rfl W.b_int (by decide +kernel) (da_cons (dv 5) da_nil)) (dv 1)) de_int)
    (ds_one (ds_ret (de_op od_mod (de_callTy cd_int rfl W.b_int (by decide +kernel) (da_cons (dv 5) da_nil)) (dv 1))))))
      ds_nil)
    (ds_cons (ds_set (i := 6) sc__law_draw.nd rfl (Or.inl rfl) (de_op od_mod (de_callTy cd_int rfl W.b_int (by decide +kernel) (da_cons (de_op od_pow (de_op od_add (de_op od_add (de_op od_mod (de_callTy cd_int rfl W.b_int (by decide +kernel) (da_cons (dv 4) da_nil)) de_int) (de_op od_mulA de_int (dv 3))) de_int) de_int) da_nil)) de_int))
    (ds_cons (ds_set (i := 6) sc__law_draw.nd rfl (Or.inl rfl) (de_op od_mod (de_callTy cd_int rfl W.b_int (by decide +kernel) (da_cons (de_op od_pow (de_op od_add (de_op od_add (de_op od_mulA (dv 6) (de_op od_add (de_op od_mulA de_int (dv 3)) de_int)) (de_op od_mulA (de_op od_mulA de_int (dv 3)) (dv 3))) de_int) de_int) da_nil)) de_int))
    (ds_one (ds_ret (de_op od_mod (de_callTy cd_int rfl W.b_int (by decide +kernel) (da_cons (de_op od_fdiv (dv 6) de_int) da_nil)) (dv 1)))))))))))))
  exact ⟨fd, main, Fd.kp, fun_binds Fd fun _ _ _ _ _ _ us hl => match us, hl with | [_, _], _ => rfl⟩
/-! ## _law_pick -/
def g__law_pick : SM := (dRet (dOp ixD (dVar 1) (dCall (arP 2 F__law_draw) (dASlot 0 (dACons (dCl lenD (dACons (dVar 1) dANil)) dANil)))))
def F__law_pick : Fn := bodyF 2 g__law_pick
theorem sc__law_pick : FnScope ["_law_pen_here", "_law_some"] ["_law_pen_here", "_law_some"] (defScope s__law_pick) := ⟨rfl, rfl, rfl, by decide +kernel, rfl, by decide +kernel, by decide +kernel⟩
theorem ok__law_pick {w : World} {K : PySem.W.Frag} {mg : Str → Option Value} {base : Heap} (W : Wd K mg) : ∃ fd, FnG PySem.Challenge.pw_tenantcuts_k46_crossings_made w K mg base (L2.CX PySem.Challenge.pw_tenantcuts_k46_crossings_made w) 9 (d__law_pick.at_ K) fd ["_law_pen_here", "_law_some"] (spD K 2 F__law_pick) ∧ PySem.W.keepIn K (.ref (d__law_pick.at_ K)) = true ∧ Binds K fd ["_law_pen_here", "_law_some"] [] := by
  obtain ⟨fd__law_draw, O__law_draw, kp__law_draw, B__law_draw⟩ := ok__law_draw (w := w) (base := base) W
  obtain ⟨fd, Fd⟩ := W.f__law_pick
  have main := ok_GD (k := 8) (P := PySem.Challenge.pw_tenantcuts_k46_crossings_made) (w := w) (mg := mg) (base := base) Fd sc__law_pick (fun cdv A outer s H E gd hr tk => (ds_one (ds_ret (de_ix (dv 1) (de_callG O__law_draw gd (hr.mono (Nat.le_of_ble_eq_true rfl)) kp__law_draw rfl W.g__law_draw B__law_draw tk (dva 0 (da_cons (de_callB cd_len rfl W.b_len (by decide +kernel) (da_cons (dv 1) da_nil)) da_nil))) (fun _ _ => rfl)))))
  exact ⟨fd, main, Fd.kp, fun_binds Fd fun _ _ _ _ _ _ us hl => match us, hl with | [_, _], _ => rfl⟩
/-! ## _law_key -/
def t0__law_key : EM Bool := (EM.ret true)
def e0__law_key : EM Sl := (dCall (arP 2 F__law_draw) (dASlot 0 (dACons (dFld flc_depths "depths" (dVar 1)) dANil)))
def g__law_key : SM := (dRet (dCm "Key" (arP 3 F_Key_of) (dACons (dVar 1) (dACons (dLc (dItA rng1 (dACons (dCall (arP 2 F__law_draw) (dASlot 0 (dACons (dC (.int 5)) dANil))) dANil)) (gD 2) t0__law_key e0__law_key [2]) dANil))))
def F__law_key : Fn := bodyF 3 g__law_key
theorem sc__law_key : FnScope ["_law_pen_here", "_law_system_so", "_law_k"] ["_law_pen_here", "_law_system_so"] (defScope s__law_key) := ⟨rfl, rfl, rfl, by decide +kernel, rfl, by decide +kernel, by decide +kernel⟩
theorem ok__law_key {w : World} {K : PySem.W.Frag} {mg : Str → Option Value} {base : Heap} (W : Wd K mg) : ∃ fd, FnG PySem.Challenge.pw_tenantcuts_k46_crossings_made w K mg base (L2.CX PySem.Challenge.pw_tenantcuts_k46_crossings_made w) 9 (d__law_key.at_ K) fd ["_law_pen_here", "_law_system_so"] (spD K 2 F__law_key) ∧ PySem.W.keepIn K (.ref (d__law_key.at_ K)) = true ∧ Binds K fd ["_law_pen_here", "_law_system_so"] [] := by
  obtain ⟨fd__law_draw, O__law_draw, kp__law_draw, B__law_draw⟩ := ok__law_draw (w := w) (base := base) W
  obtain ⟨fd_Key_of, O_Key_of, kp_Key_of, B_Key_of⟩ := ok_Key_of (w := w) (base := base) W
  obtain ⟨fd, Fd⟩ := W.f__law_key
  have main := ok_GD (k := 8) (P := PySem.Challenge.pw_tenantcuts_k46_crossings_made) (w := w) (mg := mg) (base := base) Fd sc__law_key (fun cdv A outer s H E gd hr tk => (ds_one (ds_ret (de_cmeth (de_cls rfl W.g_Key) W.r_Key W.c_Key_of (fnE_ok O_Key_of B_Key_of) (hr.mono (Nat.le_of_ble_eq_true rfl)) tk (da_cons (dv 1) (da_cons (de_lc (own := [("_law_k", 2)]) rfl sc__law_key.nd (di_range1 rfl W.b_range (da_cons (de_callG O__law_draw gd (hr.mono (Nat.le_of_ble_eq_true rfl)) kp__law_draw rfl W.g__law_draw B__law_draw tk (dva 0 (da_cons de_int da_nil))) da_nil)) (blkOk_by (N := ["_law_pen_here", "_law_system_so", "_law_k"]) (sc := defScope s__law_key) (by decide +kernel)) (by decide) (fun _ _ _ _ _ => (dg_name (i := 2) sc__law_key.nd rfl (Or.inl rfl))) (fun _ _ _ _ _ => dt_yes) (fun _ _ _ _ _ => (de_callG O__law_draw gd (hr.mono (Nat.le_of_ble_eq_true rfl)) kp__law_draw rfl W.g__law_draw B__law_draw takes_bot (dva 0 (da_cons (de_fld (cs := flc_depths) (dv 1) (fl_depths W)) da_nil))))) da_nil))))))
  exact ⟨fd, main, Fd.kp, fun_binds Fd fun _ _ _ _ _ _ us hl => match us, hl with | [_, _], _ => rfl⟩
/-! ## _law_thing -/
def g__law_thing : SM := (dSeq (dSet 2 (dOp opAdd (dC (.int 2)) (dCall (arP 2 F__law_draw) (dASlot 0 (dACons (dC (.int 9)) dANil)))))
    (dSeq (dSet 3 (dLst (dACons (dC .non) (dACons (dVar 2) (dACons (dC (.str "0-1")) (dACons (dC (.str "")) (dACons (dTup (dACons (dVar 2) dANil)) (dACons (dLst (dACons (dVar 2) dANil)) (dACons (dDctV "a" 2) (dACons (dVar 1) (dACons (dOp opPow (dC (.int 10)) (dC (.int 30))) (dACons (dUn opNeg (dVar 2)) dANil))))))))))))
    (dRet (dIfE (dTb (dOp (eqO cs ts eqT3 false) (dCall (arP 2 F__law_draw) (dASlot 0 (dACons (dC (.int 2)) dANil))) (dC (.int 0)))) (dCall (arP 2 F__law_key) (dASlot 0 (dACons (dVar 1) dANil))) (dCall (arP 2 F__law_pick) (dASlot 0 (dACons (dVar 3) dANil)))))))
def F__law_thing : Fn := bodyF 4 g__law_thing
theorem sc__law_thing : FnScope ["_law_pen_here", "_law_system_so", "_law_number", "_law_some"] ["_law_pen_here", "_law_system_so"] (defScope s__law_thing) := ⟨rfl, rfl, rfl, by decide +kernel, rfl, by decide +kernel, by decide +kernel⟩
theorem ok__law_thing {w : World} {K : PySem.W.Frag} {mg : Str → Option Value} {base : Heap} (W : Wd K mg) : ∃ fd, FnG PySem.Challenge.pw_tenantcuts_k46_crossings_made w K mg base (L2.CX PySem.Challenge.pw_tenantcuts_k46_crossings_made w) 10 (d__law_thing.at_ K) fd ["_law_pen_here", "_law_system_so"] (spD K 2 F__law_thing) ∧ PySem.W.keepIn K (.ref (d__law_thing.at_ K)) = true ∧ Binds K fd ["_law_pen_here", "_law_system_so"] [] := by
  obtain ⟨fd__law_draw, O__law_draw, kp__law_draw, B__law_draw⟩ := ok__law_draw (w := w) (base := base) W
  obtain ⟨fd__law_key, O__law_key, kp__law_key, B__law_key⟩ := ok__law_key (w := w) (base := base) W
  obtain ⟨fd__law_pick, O__law_pick, kp__law_pick, B__law_pick⟩ := ok__law_pick (w := w) (base := base) W
  obtain ⟨fd_System___eq__, O_System___eq__, kp_System___eq__, B_System___eq__⟩ := ok_System___eq__ (w := w) (base := base) W
  obtain ⟨fd_Key___eq__, O_Key___eq__, kp_Key___eq__, B_Key___eq__⟩ := ok_Key___eq__ (w := w) (base := base) W
  obtain ⟨fd_Crossing___eq__, O_Crossing___eq__, kp_Crossing___eq__, B_Crossing___eq__⟩ := ok_Crossing___eq__ (w := w) (base := base) W
  have hT : ∀ e ∈ eqT3, EqOk PySem.Challenge.pw_tenantcuts_k46_crossings_made w K mg base 6 cs ts e.1 e.2 := List.forall_mem_cons.mpr ⟨⟨⟨_, _, _, W.q_System, rfl, O_System___eq__.mono (Nat.le_of_ble_eq_true rfl), B_System___eq__⟩, nf_System W⟩, List.forall_mem_cons.mpr ⟨⟨⟨_, _, _, W.q_Key, rfl, O_Key___eq__.mono (Nat.le_of_ble_eq_true rfl), B_Key___eq__⟩, nf_Key W⟩, List.forall_mem_cons.mpr ⟨⟨⟨_, _, _, W.q_Crossing, rfl, O_Crossing___eq__.mono (Nat.le_of_ble_eq_true rfl), B_Crossing___eq__⟩, nf_Crossing W⟩, fun _ h => nomatch h⟩⟩⟩
  obtain ⟨fd, Fd⟩ := W.f__law_thing
  have main := ok_GD (k := 9) (P := PySem.Challenge.pw_tenantcuts_k46_crossings_made) (w := w) (mg := mg) (base := base) Fd sc__law_thing (fun cdv A outer s H E gd hr tk => (ds_cons (ds_set (i := 2) sc__law_thing.nd rfl (Or.inl rfl) (de_op od_add de_int (de_callG O__law_draw gd (hr.mono (Nat.le_of_ble_eq_true rfl)) kp__law_draw rfl W.g__law_draw B__law_draw tk (dva 0 (da_cons de_int da_nil)))))
    (ds_cons (ds_set (i := 3) sc__law_thing.nd rfl (Or.inl rfl) (de_lst (da_cons de_non (da_cons (dv 2) (da_cons de_str (da_cons de_str (da_cons (de_tup (da_cons (dv 2) da_nil)) (da_cons (de_lst (da_cons (dv 2) da_nil)) (da_cons (de_dctV (i := 2) rfl (Or.inl rfl)) (da_cons (dv 1) (da_cons (de_op od_pow de_int de_int) (da_cons (de_un od_neg (dv 2)) da_nil))))))))))))
    (ds_one (ds_ret (de_ifExp (dt_cmp (od_eqO (hr.units) (hr.mono (Nat.le_of_ble_eq_true rfl)) (cs_ok W) hT) (de_callG O__law_draw gd (hr.mono (Nat.le_of_ble_eq_true rfl)) kp__law_draw rfl W.g__law_draw B__law_draw tk (dva 0 (da_cons de_int da_nil))) de_int (nomark _)) (de_callG O__law_key gd (hr.mono (Nat.le_of_ble_eq_true rfl)) kp__law_key rfl W.g__law_key B__law_key tk (dva 0 (da_cons (dv 1) da_nil))) (de_callG O__law_pick gd (hr.mono (Nat.le_of_ble_eq_true rfl)) kp__law_pick rfl W.g__law_pick B__law_pick tk (dva 0 (da_cons (dv 3) da_nil)))))))))
  exact ⟨fd, main, Fd.kp, fun_binds Fd fun _ _ _ _ _ _ us hl => match us, hl with | [_, _], _ => rfl⟩
end K46
end
section
set_option maxHeartbeats 4000000
namespace K46
open PySem PySem.Spec PyProof.Rows L2 Tx He Hx Dl
open Evl (Ex)
variable [Tabl]
/-! ## law -/
def strT2 : EqT := [("Key", arP 1 F_Key___str__), ("Crossing", arP 1 F_Crossing___str__)]
def b0_law : SM := (dSeq (dSet 3 (dOp opAdd (dC (.int 2)) (dCall (arP 2 F__law_draw) (dASlot 1 (dACons (dC (.int 5)) dANil)))))
    (dSeq (dSet 4 (dMake "System" (arP 3 F_System___init__) (dACons (dVar 3) (dACons (dCall (arP 2 F__law_draw) (dASlot 1 (dACons (dVar 3) dANil))) dANil))))
    (dSeq (dPar2 5 6 (dCall (arP 2 F__law_thing) (dASlot 1 (dACons (dVar 4) dANil))) (dCall (arP 2 F__law_thing) (dASlot 1 (dACons (dVar 4) dANil))))
    (dSeq (dPar2 7 8 (dMake "Crossing" (arP 3 F_Crossing___init__) (dACons (dVar 5) (dACons (dVar 6) dANil))) (dMakeK "Crossing" 3 2 [1, 0] F_Crossing___init__ (dACons (dVar 6) (dACons (dVar 5) dANil))))
    (dSeq (dSet 9 (dIfE (dTr (dCl (isiD cs isT) (dACons (dVar 5) (dACons (dC (.cls "Key")) dANil)))) (dFld flc_places "places" (dVar 5)) (dC .non)))
    (dSeq (dIfS (dTOr (dTNot (dTb (dOp (eqX cs ts eqT3) (dFld flc_key "key" (dVar 7)) (dVar 5)))) (dTOr (dTNot (dTb (dOp (eqX cs ts eqT3) (dFld flc_other "other" (dVar 7)) (dVar 6)))) (dTb (dOp (neX cs ts eqT3) (dCl reprD (dACons (dFld flc_places "places" (dVar 7)) dANil)) (dCl reprD (dACons (dVar 9) dANil)))))) (dRet (dC (.bl false))) dNext)
    (dSeq (dIfS (dTOr (dTNot (dTb (dOp (eqX cs ts eqT3) (dVar 7) (dVar 8)))) (dTOr (dTb (dOp (neX cs ts eqT3) (dVar 7) (dMake "Crossing" (arP 3 F_Crossing___init__) (dACons (dVar 5) (dACons (dVar 6) dANil))))) (dTOr (dTb (dOp (eqX cs ts eqT3) (dVar 7) (dTup (dACons (dVar 5) (dACons (dVar 6) dANil))))) (dTOr (dTb (dOp (eqX cs ts eqT3) (dVar 7) (dC .non))) (dTb (dOp (eqX cs ts eqT3) (dVar 7) (dVar 5))))))) (dRet (dC (.bl false))) dNext)
    (dSeq (dIfS (dTOr (dTb (dOp (eqX cs ts eqT3) (dVar 7) (dMake "Crossing" (arP 3 F_Crossing___init__) (dACons (dC (.str "zz9")) (dACons (dVar 6) dANil))))) (dTNot (dTb (dOp (neX cs ts eqT3) (dVar 7) (dMake "Crossing" (arP 3 F_Crossing___init__) (dACons (dVar 5) (dACons (dC (.str "zz9")) dANil))))))) (dRet (dC (.bl false))) dNext)
    (dSeq (dIfS (dTAnd (dTb (dOp (eqX cs ts eqT3) (dVar 7) (dMake "Crossing" (arP 3 F_Crossing___init__) (dACons (dVar 6) (dACons (dVar 5) dANil))))) (dTb (dOp (neX cs ts eqT3) (dVar 5) (dVar 6)))) (dRet (dC (.bl false))) dNext)
    (dSeq (dPar2 10 11 (dCall (arP 2 F__law_key) (dASlot 1 (dACons (dVar 4) dANil))) (dCall (arP 2 F__law_key) (dASlot 1 (dACons (dVar 4) dANil))))
    (dIfS (dTb (dOp (neX cs ts eqT3) (dCl (strO strT2) (dACons (dMake "Crossing" (arP 3 F_Crossing___init__) (dACons (dVar 10) (dACons (dVar 11) dANil))) dANil)) (dOp opAdd (dOp opAdd (dCl (strO strT2) (dACons (dVar 10) dANil)) (dC (.str " opens "))) (dCl (strO strT2) (dACons (dVar 11) dANil))))) (dRet (dC (.bl false))) dNext)))))))))))
def g_law : SM := (dSeq (dSet 1 (dCall (arP 1 F__law_pen) (dACons (dVar 0) dANil)))
    (dSeq (dFor (dItA rng1 (dACons (dC (.int 8)) dANil)) (gD 2) b0_law)
    (dRet (dC (.bl true)))))
def F_law : Fn := bodyF 12 g_law
theorem sc_law : FnScope ["_law_script", "_law_pen_here", "_law_turn", "_law_depths", "_law_system_so", "_law_one", "_law_two", "_law_made", "_law_twin", "_law_many", "_law_key_so", "_law_door_so"] ["_law_script"] (defScope s_law) := ⟨rfl, rfl, rfl, by decide +kernel, rfl, by decide +kernel, by decide +kernel⟩
theorem ok_law {w : World} {K : PySem.W.Frag} {mg : Str → Option Value} (W : Wd K mg) : ∃ fd, (∀ base : Heap, FnG PySem.Challenge.pw_tenantcuts_k46_crossings_made w K mg base CX0 12 (d_law.at_ K) fd ["_law_script"] (fun vs H Q _ => vs.length = 1 ∧ spE K F_law vs H Q fun _ _ _ => False)) ∧ (∀ (s : Shared) (u : Value), BindsTo s fd ⟨[u], []⟩ [("_law_script", u)]) := by
  obtain ⟨fd, Fd⟩ := W.f_law
  refine ⟨fd, fun base => ?_, fun s u => ?_⟩
  rotate_left
  · obtain ⟨oc, od, dV, kV, doc, pm, an, cdv, ct, osl, rfl, lk, hcd, hD, _⟩ := Fd.ex
    rcases hD with ⟨_, rfl⟩ | ⟨hne, _⟩
    · exact .of_eq rfl
    · exact absurd rfl hne
  obtain ⟨fd_Crossing___init__, O_Crossing___init__, kp_Crossing___init__, B_Crossing___init__, K_Crossing___init___other_key⟩ := ok_Crossing___init__ (w := w) (base := base) W
  obtain ⟨fd__law_key, O__law_key, kp__law_key, B__law_key⟩ := ok__law_key (w := w) (base := base) W
  obtain ⟨fd__law_thing, O__law_thing, kp__law_thing, B__law_thing⟩ := ok__law_thing (w := w) (base := base) W
  obtain ⟨fd__law_draw, O__law_draw, kp__law_draw, B__law_draw⟩ := ok__law_draw (w := w) (base := base) W
  obtain ⟨fd_System___init__, O_System___init__, kp_System___init__, B_System___init__, O_System___init___2⟩ := ok_System___init__ (w := w) (base := base) W
  obtain ⟨fd__law_pen, O__law_pen, kp__law_pen, B__law_pen⟩ := ok__law_pen (w := w) (base := base) W
  obtain ⟨fd_System___eq__, O_System___eq__, kp_System___eq__, B_System___eq__⟩ := ok_System___eq__ (w := w) (base := base) W
  obtain ⟨fd_Key___eq__, O_Key___eq__, kp_Key___eq__, B_Key___eq__⟩ := ok_Key___eq__ (w := w) (base := base) W
  obtain ⟨fd_Crossing___eq__, O_Crossing___eq__, kp_Crossing___eq__, B_Crossing___eq__⟩ := ok_Crossing___eq__ (w := w) (base := base) W
  have hT : ∀ e ∈ eqT3, EqOk PySem.Challenge.pw_tenantcuts_k46_crossings_made w K mg base 6 cs ts e.1 e.2 := List.forall_mem_cons.mpr ⟨⟨⟨_, _, _, W.q_System, rfl, O_System___eq__.mono (Nat.le_of_ble_eq_true rfl), B_System___eq__⟩, nf_System W⟩, List.forall_mem_cons.mpr ⟨⟨⟨_, _, _, W.q_Key, rfl, O_Key___eq__.mono (Nat.le_of_ble_eq_true rfl), B_Key___eq__⟩, nf_Key W⟩, List.forall_mem_cons.mpr ⟨⟨⟨_, _, _, W.q_Crossing, rfl, O_Crossing___eq__.mono (Nat.le_of_ble_eq_true rfl), B_Crossing___eq__⟩, nf_Crossing W⟩, fun _ h => nomatch h⟩⟩⟩
  have hB : ∀ e ∈ eqT3, ∀ t ∈ bts, PySem.W.subIn K (.ref (ga K e.1)) (.type t) = some false := List.forall_mem_cons.mpr ⟨W.sb_System, List.forall_mem_cons.mpr ⟨W.sb_Key, List.forall_mem_cons.mpr ⟨W.sb_Crossing, fun _ h => nomatch h⟩⟩⟩
  obtain ⟨fd_Key___str__, O_Key___str__, kp_Key___str__, B_Key___str__⟩ := ok_Key___str__ (w := w) (base := base) W
  obtain ⟨fd_Crossing___str__, O_Crossing___str__, kp_Crossing___str__, B_Crossing___str__⟩ := ok_Crossing___str__ (w := w) (base := base) W
  have hS : ∀ e ∈ strT2, StrOk PySem.Challenge.pw_tenantcuts_k46_crossings_made w K mg base 9 e.1 e.2 := List.forall_mem_cons.mpr ⟨⟨⟨_, W.t_Key, (fnE_ok O_Key___str__ B_Key___str__).mono (Nat.le_of_ble_eq_true rfl)⟩⟩, List.forall_mem_cons.mpr ⟨⟨⟨_, W.t_Crossing, (fnE_ok O_Crossing___str__ B_Crossing___str__).mono (Nat.le_of_ble_eq_true rfl)⟩⟩, fun _ h => nomatch h⟩⟩
  have main := Dl.ok_law (k := 11) (P := PySem.Challenge.pw_tenantcuts_k46_crossings_made) (w := w) (mg := mg) (base := base) Fd sc_law (fun cdv A outer s H E gd hr => (ds_cons (ds_set (i := 1) sc_law.nd rfl (Or.inl rfl) (de_callG O__law_pen gd (hr.mono (Nat.le_of_ble_eq_true rfl)) kp__law_pen rfl W.g__law_pen B__law_pen takes_bot (da_cons (dv 0) da_nil)))
    (ds_cons (ds_for (passes_of rfl) rfl (di_range1 rfl W.b_range (da_cons de_int da_nil)) (dg_name (i := 2) sc_law.nd rfl (Or.inl rfl))
      (ds_cons (ds_set (i := 3) sc_law.nd rfl (Or.inl rfl) (de_op od_add de_int (de_callG O__law_draw gd (hr.mono (Nat.le_of_ble_eq_true rfl)) kp__law_draw rfl W.g__law_draw B__law_draw takes_bot (dva 1 (da_cons de_int da_nil)))))
    (ds_cons (ds_set (i := 4) sc_law.nd rfl (Or.inl rfl) (de_make W.x_System (fnE_ok O_System___init__ B_System___init__) (hr.mono (Nat.le_of_ble_eq_true rfl)) rfl W.g_System takes_bot (da_cons (dv 3) (da_cons (de_callG O__law_draw gd (hr.mono (Nat.le_of_ble_eq_true rfl)) kp__law_draw rfl W.g__law_draw B__law_draw takes_bot (dva 1 (da_cons (dv 3) da_nil))) da_nil))))
    (ds_cons (ds_par2 (i := 5) (j := 6) rfl sc_law.nd rfl rfl (by decide) rfl rfl (de_callG O__law_thing gd (hr.mono (Nat.le_of_ble_eq_true rfl)) kp__law_thing rfl W.g__law_thing B__law_thing takes_bot (dva 1 (da_cons (dv 4) da_nil))) (de_callG O__law_thing gd (hr.mono (Nat.le_of_ble_eq_true rfl)) kp__law_thing rfl W.g__law_thing B__law_thing takes_bot (dva 1 (da_cons (dv 4) da_nil))))
    (ds_cons (ds_par2 (i := 7) (j := 8) rfl sc_law.nd rfl rfl (by decide) rfl rfl (de_make W.x_Crossing (fnE_ok O_Crossing___init__ B_Crossing___init__) (hr.mono (Nat.le_of_ble_eq_true rfl)) rfl W.g_Crossing takes_bot (da_cons (dv 5) (da_cons (dv 6) da_nil))) (de_makeK (ks := ["other", "key"]) (is := [1, 0]) W.x_Crossing O_Crossing___init__ (hr.mono (Nat.le_of_ble_eq_true rfl)) rfl W.g_Crossing K_Crossing___init___other_key (fun _ _ _ => rfl) takes_bot (dk_cons (dv 6) (dk_cons (dv 5) dk_nil))))
    (ds_cons (ds_set (i := 9) sc_law.nd rfl (Or.inl rfl) (de_ifExp (dt_val (de_callB (cd_isi (cs_ok W) (isT_ok W)) rfl W.b_isinstance (by decide +kernel) (da_cons (dv 5) (da_cons (de_cls rfl W.g_Key) da_nil)))) (de_fld (cs := flc_places) (dv 5) (fl_places W)) de_non))
    (ds_cons (ds_if (PW.pt (dw_or (dt_not (dt_cmp (od_eqX (hr.units) (hr.mono (Nat.le_of_ble_eq_true rfl)) (cs_ok W) hT hB) (de_fld (cs := flc_key) (dv 7) (fl_key W)) (dv 5) (nomark _))) (dw_or (dt_not (dt_cmp (od_eqX (hr.units) (hr.mono (Nat.le_of_ble_eq_true rfl)) (cs_ok W) hT hB) (de_fld (cs := flc_other) (dv 7) (fl_other W)) (dv 6) (nomark _))) (dw_or1 (dt_cmp (od_neX (hr.units) (hr.mono (Nat.le_of_ble_eq_true rfl)) (cs_ok W) hT) (de_callB (cd_repr gd (hr.units) (sys_ok W)) rfl W.b_repr (by decide +kernel) (da_cons (de_fld (cs := flc_places) (dv 7) (fl_places W)) da_nil)) (de_callB (cd_repr gd (hr.units) (sys_ok W)) rfl W.b_repr (by decide +kernel) (da_cons (dv 9) da_nil)) (nomark _)))))) (ds_one (ds_ret de_bl))
      ds_nil)
    (ds_cons (ds_if (PW.pt (dw_or (dt_not (dt_cmp (od_eqX (hr.units) (hr.mono (Nat.le_of_ble_eq_true rfl)) (cs_ok W) hT hB) (dv 7) (dv 8) (nomark _))) (dw_or (dt_cmp (od_neX (hr.units) (hr.mono (Nat.le_of_ble_eq_true rfl)) (cs_ok W) hT) (dv 7) (de_make W.x_Crossing (fnE_ok O_Crossing___init__ B_Crossing___init__) (hr.mono (Nat.le_of_ble_eq_true rfl)) rfl W.g_Crossing takes_bot (da_cons (dv 5) (da_cons (dv 6) da_nil))) (nomark _)) (dw_or (dt_cmp (od_eqX (hr.units) (hr.mono (Nat.le_of_ble_eq_true rfl)) (cs_ok W) hT hB) (dv 7) (de_tup (da_cons (dv 5) (da_cons (dv 6) da_nil))) (nomark _)) (dw_or (dt_cmp (od_eqX (hr.units) (hr.mono (Nat.le_of_ble_eq_true rfl)) (cs_ok W) hT hB) (dv 7) de_non (nomark _)) (dw_or1 (dt_cmp (od_eqX (hr.units) (hr.mono (Nat.le_of_ble_eq_true rfl)) (cs_ok W) hT hB) (dv 7) (dv 5) (nomark _)))))))) (ds_one (ds_ret de_bl))
      ds_nil)
    (ds_cons (ds_if (PW.pt (dw_or (dt_cmp (od_eqX (hr.units) (hr.mono (Nat.le_of_ble_eq_true rfl)) (cs_ok W) hT hB) (dv 7) (de_make W.x_Crossing (fnE_ok O_Crossing___init__ B_Crossing___init__) (hr.mono (Nat.le_of_ble_eq_true rfl)) rfl W.g_Crossing takes_bot (da_cons de_str (da_cons (dv 6) da_nil))) (nomark _)) (dw_or1 (dt_not (dt_cmp (od_neX (hr.units) (hr.mono (Nat.le_of_ble_eq_true rfl)) (cs_ok W) hT) (dv 7) (de_make W.x_Crossing (fnE_ok O_Crossing___init__ B_Crossing___init__) (hr.mono (Nat.le_of_ble_eq_true rfl)) rfl W.g_Crossing takes_bot (da_cons (dv 5) (da_cons de_str da_nil))) (nomark _)))))) (ds_one (ds_ret de_bl))
      ds_nil)
    (ds_cons (ds_if (PW.pt (dw_and (dt_cmp (od_eqX (hr.units) (hr.mono (Nat.le_of_ble_eq_true rfl)) (cs_ok W) hT hB) (dv 7) (de_make W.x_Crossing (fnE_ok O_Crossing___init__ B_Crossing___init__) (hr.mono (Nat.le_of_ble_eq_true rfl)) rfl W.g_Crossing takes_bot (da_cons (dv 6) (da_cons (dv 5) da_nil))) (nomark _)) (dw_and1 (dt_cmp (od_neX (hr.units) (hr.mono (Nat.le_of_ble_eq_true rfl)) (cs_ok W) hT) (dv 5) (dv 6) (nomark _))))) (ds_one (ds_ret de_bl))
      ds_nil)
    (ds_cons (ds_par2 (i := 10) (j := 11) rfl sc_law.nd rfl rfl (by decide) rfl rfl (de_callG O__law_key gd (hr.mono (Nat.le_of_ble_eq_true rfl)) kp__law_key rfl W.g__law_key B__law_key takes_bot (dva 1 (da_cons (dv 4) da_nil))) (de_callG O__law_key gd (hr.mono (Nat.le_of_ble_eq_true rfl)) kp__law_key rfl W.g__law_key B__law_key takes_bot (dva 1 (da_cons (dv 4) da_nil))))
    (ds_one (ds_if (dt_cmp (od_neX (hr.units) (hr.mono (Nat.le_of_ble_eq_true rfl)) (cs_ok W) hT) (de_callTy (cd_str (hr.mono (Nat.le_of_ble_eq_true rfl)) hS) rfl W.b_str (by decide +kernel) (da_cons (de_make W.x_Crossing (fnE_ok O_Crossing___init__ B_Crossing___init__) (hr.mono (Nat.le_of_ble_eq_true rfl)) rfl W.g_Crossing takes_bot (da_cons (dv 10) (da_cons (dv 11) da_nil))) da_nil)) (de_op od_add (de_op od_add (de_callTy (cd_str (hr.mono (Nat.le_of_ble_eq_true rfl)) hS) rfl W.b_str (by decide +kernel) (da_cons (dv 10) da_nil)) de_str) (de_callTy (cd_str (hr.mono (Nat.le_of_ble_eq_true rfl)) hS) rfl W.b_str (by decide +kernel) (da_cons (dv 11) da_nil))) (nomark _)) (ds_one (ds_ret de_bl))
      ds_nil)))))))))))))
    (ds_one (ds_ret de_bl)))))
  exact main
end K46
end
section
set_option autoImplicit false
set_option maxHeartbeats 4000000
/-! Facts of the tables and classes, for simp. -/
namespace K46
open PySem PySem.Spec PyProof.Rows L2 Tx He Hx Dl
section
variable {e : D} {neg : Bool}
def mkI_Key (s : D) (c : List Int) : D := .ins "Key" [("system", s), ("own_cuts", .tup (c.map .int)), ("places", .int c.length)]
def mkI_System (d m : Int) : D := .ins "System" [("depths", .int d), ("master", .int m)]
def mkI_Crossing (k o p : D) : D := .ins "Crossing" [("key", k), ("other", o), ("places", p)]
@[simp] theorem ff_Key_system {s : D} {c : List Int} : fldD flc_system "system" (mkI_Key s c) = some (.dat (s)) := by kernel_rfl
@[simp] theorem ff_Key_own_cuts {s : D} {c : List Int} : fldD flc_own_cuts "own_cuts" (mkI_Key s c) = some (.dat (.tup (c.map .int))) := by kernel_rfl
@[simp] theorem ff_Key_places {s : D} {c : List Int} : fldD flc_places "places" (mkI_Key s c) = some (.dat (.int c.length)) := by kernel_rfl
@[simp] theorem ic_Key_Key {s : D} {c : List Int} : isC "Key" (mkI_Key s c) = true := by kernel_rfl
@[simp] theorem tk_Key {s : D} {c : List Int} : tyOk cs ts (mkI_Key s c) = true := by kernel_rfl
@[simp] theorem in_Key : isC "Key" (.ins "Key" []) = true := by kernel_rfl
@[simp] theorem ff_System_depths {d m : Int} : fldD flc_depths "depths" (mkI_System d m) = some (.dat (.int d)) := by kernel_rfl
@[simp] theorem ff_System_master {d m : Int} : fldD flc_master "master" (mkI_System d m) = some (.dat (.int m)) := by kernel_rfl
@[simp] theorem ic_System_Depths {d m : Int} : isC "Depths" (mkI_System d m) = false := by kernel_rfl
@[simp] theorem ic_System_Key {d m : Int} : isC "Key" (mkI_System d m) = false := by kernel_rfl
@[simp] theorem ic_System_System {d m : Int} : isC "System" (mkI_System d m) = true := by kernel_rfl
@[simp] theorem tk_System {d m : Int} : tyOk cs ts (mkI_System d m) = true := by kernel_rfl
@[simp] theorem in_System : isC "System" (.ins "System" []) = true := by kernel_rfl
@[simp] theorem ff_Crossing_key {k o p : D} : fldD flc_key "key" (mkI_Crossing k o p) = some (.dat (k)) := by kernel_rfl
@[simp] theorem ff_Crossing_other {k o p : D} : fldD flc_other "other" (mkI_Crossing k o p) = some (.dat (o)) := by kernel_rfl
@[simp] theorem ff_Crossing_places {k o p : D} : fldD flc_places "places" (mkI_Crossing k o p) = some (.dat (p)) := by kernel_rfl
@[simp] theorem ic_Crossing_Key {k o p : D} : isC "Key" (mkI_Crossing k o p) = false := by kernel_rfl
@[simp] theorem ic_Crossing_Crossing {k o p : D} : isC "Crossing" (mkI_Crossing k o p) = true := by kernel_rfl
@[simp] theorem tk_Crossing {k o p : D} : tyOk cs ts (mkI_Crossing k o p) = true := by kernel_rfl
@[simp] theorem in_Crossing : isC "Crossing" (.ins "Crossing" []) = true := by kernel_rfl
@[simp] theorem tk_non : tyOk cs ts .non = true := by kernel_rfl
@[simp] theorem tk_bl {b : Bool} : tyOk cs ts (.bl b) = true := by kernel_rfl
@[simp] theorem tk_int {i : Int} : tyOk cs ts (.int i) = true := by kernel_rfl
@[simp] theorem tk_str {z : Str} : tyOk cs ts (.str z) = true := by kernel_rfl
@[simp] theorem tk_lst {xs : List D} : tyOk cs ts (.lst xs) = true := by kernel_rfl
@[simp] theorem tk_tup {xs : List D} : tyOk cs ts (.tup xs) = true := by kernel_rfl
@[simp] theorem tk_dct {kvs : List (L2.Key × D)} : tyOk cs ts (.dct kvs) = true := by kernel_rfl
@[simp] theorem is_non_int : isiD cs isT [.non, .ty "int"] = some (.dat (.bl false)) := by kernel_rfl
@[simp] theorem is_bl_int {b : Bool} : isiD cs isT [(.bl b), .ty "int"] = some (.dat (.bl true)) := by kernel_rfl
@[simp] theorem is_int_int {i : Int} : isiD cs isT [(.int i), .ty "int"] = some (.dat (.bl true)) := by kernel_rfl
@[simp] theorem is_str_int {z : Str} : isiD cs isT [(.str z), .ty "int"] = some (.dat (.bl false)) := by kernel_rfl
@[simp] theorem is_lst_int {xs : List D} : isiD cs isT [(.lst xs), .ty "int"] = some (.dat (.bl false)) := by kernel_rfl
@[simp] theorem is_tup_int {xs : List D} : isiD cs isT [(.tup xs), .ty "int"] = some (.dat (.bl false)) := by kernel_rfl
@[simp] theorem is_dct_int {kvs : List (L2.Key × D)} : isiD cs isT [(.dct kvs), .ty "int"] = some (.dat (.bl false)) := by kernel_rfl
@[simp] theorem is_Key_int {s : D} {c : List Int} : isiD cs isT [(mkI_Key s c), .ty "int"] = some (.dat (.bl false)) := by kernel_rfl
@[simp] theorem is_System_int {d m : Int} : isiD cs isT [(mkI_System d m), .ty "int"] = some (.dat (.bl false)) := by kernel_rfl
@[simp] theorem is_Crossing_int {k o p : D} : isiD cs isT [(mkI_Crossing k o p), .ty "int"] = some (.dat (.bl false)) := by kernel_rfl
@[simp] theorem is_non_Depths : isiD cs isT [.non, .cls "Depths"] = some (.dat (.bl false)) := by kernel_rfl
@[simp] theorem is_bl_Depths {b : Bool} : isiD cs isT [(.bl b), .cls "Depths"] = some (.dat (.bl false)) := by kernel_rfl
@[simp] theorem is_int_Depths {i : Int} : isiD cs isT [(.int i), .cls "Depths"] = some (.dat (.bl false)) := by kernel_rfl
@[simp] theorem is_str_Depths {z : Str} : isiD cs isT [(.str z), .cls "Depths"] = some (.dat (.bl false)) := by kernel_rfl
@[simp] theorem is_lst_Depths {xs : List D} : isiD cs isT [(.lst xs), .cls "Depths"] = some (.dat (.bl false)) := by kernel_rfl
@[simp] theorem is_tup_Depths {xs : List D} : isiD cs isT [(.tup xs), .cls "Depths"] = some (.dat (.bl false)) := by kernel_rfl
@[simp] theorem is_dct_Depths {kvs : List (L2.Key × D)} : isiD cs isT [(.dct kvs), .cls "Depths"] = some (.dat (.bl false)) := by kernel_rfl
@[simp] theorem is_Key_Depths {s : D} {c : List Int} : isiD cs isT [(mkI_Key s c), .cls "Depths"] = some (.dat (.bl false)) := by kernel_rfl
@[simp] theorem is_System_Depths {d m : Int} : isiD cs isT [(mkI_System d m), .cls "Depths"] = some (.dat (.bl true)) := by kernel_rfl
@[simp] theorem is_Crossing_Depths {k o p : D} : isiD cs isT [(mkI_Crossing k o p), .cls "Depths"] = some (.dat (.bl false)) := by kernel_rfl
@[simp] theorem is_non_bool : isiD cs isT [.non, .ty "bool"] = some (.dat (.bl false)) := by kernel_rfl
@[simp] theorem is_bl_bool {b : Bool} : isiD cs isT [(.bl b), .ty "bool"] = some (.dat (.bl true)) := by kernel_rfl
@[simp] theorem is_int_bool {i : Int} : isiD cs isT [(.int i), .ty "bool"] = some (.dat (.bl false)) := by kernel_rfl
@[simp] theorem is_str_bool {z : Str} : isiD cs isT [(.str z), .ty "bool"] = some (.dat (.bl false)) := by kernel_rfl
@[simp] theorem is_lst_bool {xs : List D} : isiD cs isT [(.lst xs), .ty "bool"] = some (.dat (.bl false)) := by kernel_rfl
@[simp] theorem is_tup_bool {xs : List D} : isiD cs isT [(.tup xs), .ty "bool"] = some (.dat (.bl false)) := by kernel_rfl
@[simp] theorem is_dct_bool {kvs : List (L2.Key × D)} : isiD cs isT [(.dct kvs), .ty "bool"] = some (.dat (.bl false)) := by kernel_rfl
@[simp] theorem is_Key_bool {s : D} {c : List Int} : isiD cs isT [(mkI_Key s c), .ty "bool"] = some (.dat (.bl false)) := by kernel_rfl
@[simp] theorem is_System_bool {d m : Int} : isiD cs isT [(mkI_System d m), .ty "bool"] = some (.dat (.bl false)) := by kernel_rfl
@[simp] theorem is_Crossing_bool {k o p : D} : isiD cs isT [(mkI_Crossing k o p), .ty "bool"] = some (.dat (.bl false)) := by kernel_rfl
@[simp] theorem is_non_Key : isiD cs isT [.non, .cls "Key"] = some (.dat (.bl false)) := by kernel_rfl
@[simp] theorem is_bl_Key {b : Bool} : isiD cs isT [(.bl b), .cls "Key"] = some (.dat (.bl false)) := by kernel_rfl
@[simp] theorem is_int_Key {i : Int} : isiD cs isT [(.int i), .cls "Key"] = some (.dat (.bl false)) := by kernel_rfl
@[simp] theorem is_str_Key {z : Str} : isiD cs isT [(.str z), .cls "Key"] = some (.dat (.bl false)) := by kernel_rfl
@[simp] theorem is_lst_Key {xs : List D} : isiD cs isT [(.lst xs), .cls "Key"] = some (.dat (.bl false)) := by kernel_rfl
@[simp] theorem is_tup_Key {xs : List D} : isiD cs isT [(.tup xs), .cls "Key"] = some (.dat (.bl false)) := by kernel_rfl
@[simp] theorem is_dct_Key {kvs : List (L2.Key × D)} : isiD cs isT [(.dct kvs), .cls "Key"] = some (.dat (.bl false)) := by kernel_rfl
@[simp] theorem is_Key_Key {s : D} {c : List Int} : isiD cs isT [(mkI_Key s c), .cls "Key"] = some (.dat (.bl true)) := by kernel_rfl
@[simp] theorem is_System_Key {d m : Int} : isiD cs isT [(mkI_System d m), .cls "Key"] = some (.dat (.bl false)) := by kernel_rfl
@[simp] theorem is_Crossing_Key {k o p : D} : isiD cs isT [(mkI_Crossing k o p), .cls "Key"] = some (.dat (.bl false)) := by kernel_rfl
@[simp] theorem is_non_list_tuple : isiD cs isT [.non, .tup [.ty "list", .ty "tuple"]] = some (.dat (.bl false)) := by kernel_rfl
@[simp] theorem is_bl_list_tuple {b : Bool} : isiD cs isT [(.bl b), .tup [.ty "list", .ty "tuple"]] = some (.dat (.bl false)) := by kernel_rfl
@[simp] theorem is_int_list_tuple {i : Int} : isiD cs isT [(.int i), .tup [.ty "list", .ty "tuple"]] = some (.dat (.bl false)) := by kernel_rfl
@[simp] theorem is_str_list_tuple {z : Str} : isiD cs isT [(.str z), .tup [.ty "list", .ty "tuple"]] = some (.dat (.bl false)) := by kernel_rfl
@[simp] theorem is_lst_list_tuple {xs : List D} : isiD cs isT [(.lst xs), .tup [.ty "list", .ty "tuple"]] = some (.dat (.bl true)) := by kernel_rfl
@[simp] theorem is_tup_list_tuple {xs : List D} : isiD cs isT [(.tup xs), .tup [.ty "list", .ty "tuple"]] = some (.dat (.bl true)) := by kernel_rfl
@[simp] theorem is_dct_list_tuple {kvs : List (L2.Key × D)} : isiD cs isT [(.dct kvs), .tup [.ty "list", .ty "tuple"]] = some (.dat (.bl false)) := by kernel_rfl
@[simp] theorem is_Key_list_tuple {s : D} {c : List Int} : isiD cs isT [(mkI_Key s c), .tup [.ty "list", .ty "tuple"]] = some (.dat (.bl false)) := by kernel_rfl
@[simp] theorem is_System_list_tuple {d m : Int} : isiD cs isT [(mkI_System d m), .tup [.ty "list", .ty "tuple"]] = some (.dat (.bl false)) := by kernel_rfl
@[simp] theorem is_Crossing_list_tuple {k o p : D} : isiD cs isT [(mkI_Crossing k o p), .tup [.ty "list", .ty "tuple"]] = some (.dat (.bl false)) := by kernel_rfl
@[simp] theorem is_non_str : isiD cs isT [.non, .ty "str"] = some (.dat (.bl false)) := by kernel_rfl
@[simp] theorem is_bl_str {b : Bool} : isiD cs isT [(.bl b), .ty "str"] = some (.dat (.bl false)) := by kernel_rfl
@[simp] theorem is_int_str {i : Int} : isiD cs isT [(.int i), .ty "str"] = some (.dat (.bl false)) := by kernel_rfl
@[simp] theorem is_str_str {z : Str} : isiD cs isT [(.str z), .ty "str"] = some (.dat (.bl true)) := by kernel_rfl
@[simp] theorem is_lst_str {xs : List D} : isiD cs isT [(.lst xs), .ty "str"] = some (.dat (.bl false)) := by kernel_rfl
@[simp] theorem is_tup_str {xs : List D} : isiD cs isT [(.tup xs), .ty "str"] = some (.dat (.bl false)) := by kernel_rfl
@[simp] theorem is_dct_str {kvs : List (L2.Key × D)} : isiD cs isT [(.dct kvs), .ty "str"] = some (.dat (.bl false)) := by kernel_rfl
@[simp] theorem is_Key_str {s : D} {c : List Int} : isiD cs isT [(mkI_Key s c), .ty "str"] = some (.dat (.bl false)) := by kernel_rfl
@[simp] theorem is_System_str {d m : Int} : isiD cs isT [(mkI_System d m), .ty "str"] = some (.dat (.bl false)) := by kernel_rfl
@[simp] theorem is_Crossing_str {k o p : D} : isiD cs isT [(mkI_Crossing k o p), .ty "str"] = some (.dat (.bl false)) := by kernel_rfl
@[simp] theorem is_non_System : isiD cs isT [.non, .cls "System"] = some (.dat (.bl false)) := by kernel_rfl
@[simp] theorem is_bl_System {b : Bool} : isiD cs isT [(.bl b), .cls "System"] = some (.dat (.bl false)) := by kernel_rfl
@[simp] theorem is_int_System {i : Int} : isiD cs isT [(.int i), .cls "System"] = some (.dat (.bl false)) := by kernel_rfl
@[simp] theorem is_str_System {z : Str} : isiD cs isT [(.str z), .cls "System"] = some (.dat (.bl false)) := by kernel_rfl
@[simp] theorem is_lst_System {xs : List D} : isiD cs isT [(.lst xs), .cls "System"] = some (.dat (.bl false)) := by kernel_rfl
@[simp] theorem is_tup_System {xs : List D} : isiD cs isT [(.tup xs), .cls "System"] = some (.dat (.bl false)) := by kernel_rfl
@[simp] theorem is_dct_System {kvs : List (L2.Key × D)} : isiD cs isT [(.dct kvs), .cls "System"] = some (.dat (.bl false)) := by kernel_rfl
@[simp] theorem is_Key_System {s : D} {c : List Int} : isiD cs isT [(mkI_Key s c), .cls "System"] = some (.dat (.bl false)) := by kernel_rfl
@[simp] theorem is_System_System {d m : Int} : isiD cs isT [(mkI_System d m), .cls "System"] = some (.dat (.bl true)) := by kernel_rfl
@[simp] theorem is_Crossing_System {k o p : D} : isiD cs isT [(mkI_Crossing k o p), .cls "System"] = some (.dat (.bl false)) := by kernel_rfl
@[simp] theorem is_non_Crossing : isiD cs isT [.non, .cls "Crossing"] = some (.dat (.bl false)) := by kernel_rfl
@[simp] theorem is_bl_Crossing {b : Bool} : isiD cs isT [(.bl b), .cls "Crossing"] = some (.dat (.bl false)) := by kernel_rfl
@[simp] theorem is_int_Crossing {i : Int} : isiD cs isT [(.int i), .cls "Crossing"] = some (.dat (.bl false)) := by kernel_rfl
@[simp] theorem is_str_Crossing {z : Str} : isiD cs isT [(.str z), .cls "Crossing"] = some (.dat (.bl false)) := by kernel_rfl
@[simp] theorem is_lst_Crossing {xs : List D} : isiD cs isT [(.lst xs), .cls "Crossing"] = some (.dat (.bl false)) := by kernel_rfl
@[simp] theorem is_tup_Crossing {xs : List D} : isiD cs isT [(.tup xs), .cls "Crossing"] = some (.dat (.bl false)) := by kernel_rfl
@[simp] theorem is_dct_Crossing {kvs : List (L2.Key × D)} : isiD cs isT [(.dct kvs), .cls "Crossing"] = some (.dat (.bl false)) := by kernel_rfl
@[simp] theorem is_Key_Crossing {s : D} {c : List Int} : isiD cs isT [(mkI_Key s c), .cls "Crossing"] = some (.dat (.bl false)) := by kernel_rfl
@[simp] theorem is_System_Crossing {d m : Int} : isiD cs isT [(mkI_System d m), .cls "Crossing"] = some (.dat (.bl false)) := by kernel_rfl
@[simp] theorem is_Crossing_Crossing {k o p : D} : isiD cs isT [(mkI_Crossing k o p), .cls "Crossing"] = some (.dat (.bl true)) := by kernel_rfl
@[simp] theorem eqT1_System {d m : Int} : eqO cs ts eqT1 neg (mkI_System d m) e = if tyOk cs ts e = true then eqB neg (F_System___eq__ [.dat (mkI_System d m), .dat e]) else none := eqO_ins (by kernel_rfl)
@[simp] theorem eqT2_System {d m : Int} : eqO cs ts eqT2 neg (mkI_System d m) e = if tyOk cs ts e = true then eqB neg (F_System___eq__ [.dat (mkI_System d m), .dat e]) else none := eqO_ins (by kernel_rfl)
@[simp] theorem eqT2_Key {s : D} {c : List Int} : eqO cs ts eqT2 neg (mkI_Key s c) e = if tyOk cs ts e = true then eqB neg (F_Key___eq__ [.dat (mkI_Key s c), .dat e]) else none := eqO_ins (by kernel_rfl)
@[simp] theorem strT1_Key {s : D} {c : List Int} : strO strT1 [(mkI_Key s c)] = strB (F_Key___str__ [.dat (mkI_Key s c)]) := strO_ins (by kernel_rfl)
@[simp] theorem eqT3_System {d m : Int} : eqO cs ts eqT3 neg (mkI_System d m) e = if tyOk cs ts e = true then eqB neg (F_System___eq__ [.dat (mkI_System d m), .dat e]) else none := eqO_ins (by kernel_rfl)
@[simp] theorem eqT3_Key {s : D} {c : List Int} : eqO cs ts eqT3 neg (mkI_Key s c) e = if tyOk cs ts e = true then eqB neg (F_Key___eq__ [.dat (mkI_Key s c), .dat e]) else none := eqO_ins (by kernel_rfl)
@[simp] theorem eqT3_Crossing {k o p : D} : eqO cs ts eqT3 neg (mkI_Crossing k o p) e = if tyOk cs ts e = true then eqB neg (F_Crossing___eq__ [.dat (mkI_Crossing k o p), .dat e]) else none := eqO_ins (by kernel_rfl)
@[simp] theorem strT2_Key {s : D} {c : List Int} : strO strT2 [(mkI_Key s c)] = strB (F_Key___str__ [.dat (mkI_Key s c)]) := strO_ins (by kernel_rfl)
@[simp] theorem strT2_Crossing {k o p : D} : strO strT2 [(mkI_Crossing k o p)] = strB (F_Crossing___str__ [.dat (mkI_Crossing k o p)]) := strO_ins (by kernel_rfl)
end
end K46
end
section
set_option maxHeartbeats 4000000
/-! A comprehension that draws; evaluation of == of unlike kinds. -/
namespace Dl
variable [Tabl]
open PySem PySem.Spec PyProof.Rows L2 Tx He Hx
theorem lc_pen {gt : D → Gm → Option Gm} {tt : EM Bool} {te : EM Sl} {vs : List Nat} {α : Type} {a : α → D} {P : Nat → D → Prop} {Qv : α → Prop} (N : Nat) (G : D → Gm)
    (step : ∀ j pn z, j < N → P j pn → ∃ Γ1 Γ2 x s Γ3 pn', gt z (toPar (wipeG (G pn) vs)) = some Γ1 ∧ tt Γ1 = .ok true Γ2 ∧ te Γ2 = .ok s Γ3 ∧ Γ3.length = (G pn).length ∧ wipeG (fromPar (wipeG (G pn) vs) Γ3) vs = G pn' ∧ s.d = a x ∧ Qv x ∧ P (j + 1) pn') :
    ∀ (ds : List D) (acc : List D) (j : Nat) (pn : D), P j pn → j + ds.length ≤ N → acc.length + ds.length < 1000000 → ∃ (xs : List α) (pn' : D), xs.length = ds.length ∧ lcL gt tt te vs ds acc (G pn) = .ok (acc ++ xs.map a) (G pn') ∧ (∀ x ∈ xs, Qv x) ∧ P (j + ds.length) pn'
  | [], acc, j, pn, h, _, _ => ⟨[], pn, rfl, by simp, fun _ h => (nomatch h), h⟩
  | d :: ds, acc, j, pn, h, hn, hz => by
    simp only [List.length_cons] at hz hn
    obtain ⟨Γ1, Γ2, x, s, Γ3, pn', e1, e2, e3, e4, e5, e6, q, h'⟩ := step j pn d (by omega) h
    obtain ⟨xs, pn2, l, e, qs, h2⟩ := lc_pen N G step ds (acc ++ [s.d]) (j + 1) pn' h' (by omega) (by simp; omega)
    refine ⟨x :: xs, pn2, by simp [l], ?_, ?_, ?_⟩
    · rw [lcL_cons, e1, lcO_some, e2, lcA_t, e3, lcB_ok (by omega) e4, e5, e, e6]
      simp
    · intro y hy
      rcases List.mem_cons.mp hy with rfl | hy
      · exact q
      · exact qs y hy
    · rw [List.length_cons, show j + (ds.length + 1) = j + 1 + ds.length by omega]
      exact h2
section
variable {us : List Str} {tt : List Ck} {T : EqT}
@[simp] theorem eqX_int (i j : Int) : eqX us tt T (.int i) (.int j) = some (.dat (.bl (decide (i = j)))) := by
  have : eqX us tt T (.int i) (.int j) = eqO us tt T false (.int i) (.int j) := rfl
  rw [this, eqO_intd, Bool.false_xor]
@[simp] theorem eqX_str (y z : Str) : eqX us tt T (.str y) (.str z) = some (.dat (.bl (decide (y = z)))) := by
  have : eqX us tt T (.str y) (.str z) = eqO us tt T false (.str y) (.str z) := rfl
  rw [this, eqO_str, Bool.false_xor]
@[simp] theorem neX_int (i j : Int) : neX us tt T (.int i) (.int j) = some (.dat (.bl (!decide (i = j)))) := by
  have : neX us tt T (.int i) (.int j) = eqO us tt T true (.int i) (.int j) := rfl
  rw [this, eqO_intd, Bool.true_xor]
@[simp] theorem neX_str (y z : Str) : neX us tt T (.str y) (.str z) = some (.dat (.bl (!decide (y = z)))) := by
  have : neX us tt T (.str y) (.str z) = eqO us tt T true (.str y) (.str z) := rfl
  rw [this, eqO_str, Bool.true_xor]
end
end Dl
end
section
set_option maxHeartbeats 4000000
set_option autoImplicit false
namespace K46
open PySem PySem.Spec PyProof.Rows L2 Tx He Hx Dl
theorem ne_system_own_cuts : (("system" : Str) = "own_cuts") = False := eq_false (by decide +kernel)
theorem nb_system_own_cuts : (("system" : Str) == "own_cuts") = false := by decide +kernel
theorem ne_system_places : (("system" : Str) = "places") = False := eq_false (by decide +kernel)
theorem nb_system_places : (("system" : Str) == "places") = false := by decide +kernel
theorem ne_system_depths : (("system" : Str) = "depths") = False := eq_false (by decide +kernel)
theorem nb_system_depths : (("system" : Str) == "depths") = false := by decide +kernel
theorem ne_system_master : (("system" : Str) = "master") = False := eq_false (by decide +kernel)
theorem nb_system_master : (("system" : Str) == "master") = false := by decide +kernel
theorem ne_own_cuts_system : (("own_cuts" : Str) = "system") = False := eq_false (by decide +kernel)
theorem nb_own_cuts_system : (("own_cuts" : Str) == "system") = false := by decide +kernel
theorem ne_own_cuts_places : (("own_cuts" : Str) = "places") = False := eq_false (by decide +kernel)
theorem nb_own_cuts_places : (("own_cuts" : Str) == "places") = false := by decide +kernel
theorem ne_own_cuts_depths : (("own_cuts" : Str) = "depths") = False := eq_false (by decide +kernel)
theorem nb_own_cuts_depths : (("own_cuts" : Str) == "depths") = false := by decide +kernel
theorem ne_own_cuts_master : (("own_cuts" : Str) = "master") = False := eq_false (by decide +kernel)
theorem nb_own_cuts_master : (("own_cuts" : Str) == "master") = false := by decide +kernel
theorem ne_places_system : (("places" : Str) = "system") = False := eq_false (by decide +kernel)
theorem nb_places_system : (("places" : Str) == "system") = false := by decide +kernel
theorem ne_places_own_cuts : (("places" : Str) = "own_cuts") = False := eq_false (by decide +kernel)
theorem nb_places_own_cuts : (("places" : Str) == "own_cuts") = false := by decide +kernel
theorem ne_places_depths : (("places" : Str) = "depths") = False := eq_false (by decide +kernel)
theorem nb_places_depths : (("places" : Str) == "depths") = false := by decide +kernel
theorem ne_places_master : (("places" : Str) = "master") = False := eq_false (by decide +kernel)
theorem nb_places_master : (("places" : Str) == "master") = false := by decide +kernel
theorem ne_depths_system : (("depths" : Str) = "system") = False := eq_false (by decide +kernel)
theorem nb_depths_system : (("depths" : Str) == "system") = false := by decide +kernel
theorem ne_depths_own_cuts : (("depths" : Str) = "own_cuts") = False := eq_false (by decide +kernel)
theorem nb_depths_own_cuts : (("depths" : Str) == "own_cuts") = false := by decide +kernel
theorem ne_depths_places : (("depths" : Str) = "places") = False := eq_false (by decide +kernel)
theorem nb_depths_places : (("depths" : Str) == "places") = false := by decide +kernel
theorem ne_depths_master : (("depths" : Str) = "master") = False := eq_false (by decide +kernel)
theorem nb_depths_master : (("depths" : Str) == "master") = false := by decide +kernel
theorem ne_master_system : (("master" : Str) = "system") = False := eq_false (by decide +kernel)
theorem nb_master_system : (("master" : Str) == "system") = false := by decide +kernel
theorem ne_master_own_cuts : (("master" : Str) = "own_cuts") = False := eq_false (by decide +kernel)
theorem nb_master_own_cuts : (("master" : Str) == "own_cuts") = false := by decide +kernel
theorem ne_master_places : (("master" : Str) = "places") = False := eq_false (by decide +kernel)
theorem nb_master_places : (("master" : Str) == "places") = false := by decide +kernel
theorem ne_master_depths : (("master" : Str) = "depths") = False := eq_false (by decide +kernel)
theorem nb_master_depths : (("master" : Str) == "depths") = false := by decide +kernel
abbrev sysD (d m : Int) : D := mkI_System d m
abbrev keyD (s : D) (cuts : List Int) : D := mkI_Key s cuts
/-! ## checks -/
@[simp] theorem e_whole_int (i : Int) : F_is_whole [.dat (.int i)] = .ok (.dat (.bl true)) [] := by kernel_rfl
@[simp] theorem e_btw (i lo hi : Int) : F_is_between [.dat (.int i), .dat (.int lo), .dat (.int hi)] = .ok (.dat (.bl (decide (lo ≤ i) && decide (i ≤ hi)))) [] := by
  by_cases h1 : lo ≤ i <;> simp [F_is_between, ev_body, frame, g_is_between, h1]
@[simp] theorem e_need (d m : Int) : F_need_system [.dat (sysD d m)] = .ok (.dat .non) [] := by kernel_rfl
/-! ## systems -/
@[simp] theorem e_dinit (d m : Int) : F_Depths___init__ [.par (.ins "System" []), .dat (.int d), .dat (.int m)] = .ok (.dat .non) [sysD d m] := by kernel_rfl
@[simp] theorem e_sinit {d m : Int} (h1 : 2 ≤ d) (h2 : d ≤ 6) (h3 : 0 ≤ m) (h4 : m < d) : F_System___init__ [.par (.ins "System" []), .dat (.int d), .dat (.int m)] = .ok (.dat .non) [sysD d m] := by
  have h5 : m ≤ d - 1 := by omega
  simp [F_System___init__, ev_body, frame, g_System___init__, h1, h2, h3, h5]
@[simp] theorem e_seq (d m d' m' : Int) : F_System___eq__ [.dat (sysD d m), .dat (sysD d' m')] = .ok (.dat (.bl ((d == d') && (m == m')))) [] := by
  by_cases h3 : d = d' <;> by_cases h4 : m = m' <;> simp [F_System___eq__, ev_body, frame, g_System___eq__, h3, h4]
/-! ## keys -/
/-- cuts of a system of d depths -/
def Cuts (d : Int) (cs : List Int) : Prop := ∀ c ∈ cs, 0 ≤ c ∧ c < d
theorem key_loop {d m : Int} (a c : Option Sl) : ∀ (cs : List Int) (x : Option Sl), Cuts d cs → ∃ y, forL (gD 3) b0_Key___init__ (cs.map .int) [a, some (.dat (sysD d m)), c, x] = .nx [a, some (.dat (sysD d m)), c, y]
  | [], x, _ => ⟨x, rfl⟩
  | k :: cs, x, h => by
    obtain ⟨h1, h2⟩ := h k (List.mem_cons_self ..)
    obtain ⟨y, e⟩ := key_loop (m := m) a c cs (some (.dat (.int k))) fun z hz => h z (List.mem_cons_of_mem _ hz)
    refine ⟨y, ?_⟩
    have h3 : k ≤ d - 1 := by omega
    have e1 : b0_Key___init__ [a, some (.dat (sysD d m)), c, some (.dat (.int k))] = .nx [a, some (.dat (sysD d m)), c, some (.dat (.int k))] := by
      simp [b0_Key___init__, h1, h3]
    simp [forL_cons, e1, e]
theorem e_kinit {d m : Int} {cs : List Int} (h : Cuts d cs) (hl : cs.length ≤ 8000) : F_Key___init__ [.par (.ins "Key" []), .dat (sysD d m), .dat (.tup (cs.map .int))] = .ok (.dat .non) [keyD (sysD d m) cs] := by
  obtain ⟨y, e⟩ := key_loop (d := d) (m := m) (some (.par (.ins "Key" []))) (some (.dat (.tup (cs.map .int)))) cs none h
  have a1 : ¬ ((8000 : Int) < (cs.length : Int)) := by omega
  simp [F_Key___init__, ev_body, frame, g_Key___init__, e, a1, flc_system, flc_own_cuts, flc_places, List.contains_cons, ne_system_own_cuts, nb_system_own_cuts, ne_system_places, nb_system_places, ne_system_depths, nb_system_depths, ne_system_master, nb_system_master, ne_own_cuts_system, nb_own_cuts_system, ne_own_cuts_places, nb_own_cuts_places, ne_own_cuts_depths, nb_own_cuts_depths, ne_own_cuts_master, nb_own_cuts_master, ne_places_system, nb_places_system, ne_places_own_cuts, nb_places_own_cuts, ne_places_depths, nb_places_depths, ne_places_master, nb_places_master, ne_depths_system, nb_depths_system, ne_depths_own_cuts, nb_depths_own_cuts, ne_depths_places, nb_depths_places, ne_depths_master, nb_depths_master, ne_master_system, nb_master_system, ne_master_own_cuts, nb_master_own_cuts, ne_master_places, nb_master_places, ne_master_depths, nb_master_depths]
  rfl
@[simp] theorem e_kcuts (s : D) (c : List Int) : F_Key_cuts [.dat (keyD s c)] = .ok (.dat (.tup (c.map .int))) [] := by kernel_rfl
@[simp] theorem e_keq (d m d' m' : Int) (c c' : List Int) : F_Key___eq__ [.dat (keyD (sysD d m) c), .dat (keyD (sysD d' m') c')] = .ok (.dat (.bl (((d == d') && (m == m')) && (c == c')))) [] := by
  cases h : ((d == d') && (m == m')) <;> simp [F_Key___eq__, ev_body, frame, g_Key___eq__, eqO_ints, h]
theorem e_kof {d m : Int} {cs : List Int} (h : Cuts d cs) (hl : cs.length ≤ 8000) : F_Key_of [.dat (.cls "Key"), .dat (sysD d m), .dat (.lst (cs.map .int))] = .ok (.dat (keyD (sysD d m) cs)) [] := by
  have hz : cs.length ≤ sizeLine := Nat.le_trans hl (by decide)
  simp [F_Key_of, ev_body, frame, g_Key_of, e_kinit h hl, hz, Function.comp_def]
/-! ## keys as texts -/
theorem cuts_dig {d : Int} {cs : List Int} (h : Cuts d cs) (hd : d ≤ 6) : ∀ c ∈ cs, 0 ≤ c ∧ c < 10 := fun c hc => by
  have := h c hc
  omega
def kt (cs : List Int) : Str := if cs = [] then "." else Txt.join "-" (cs.map num)
theorem e_kstr {s : D} {d : Int} {cs : List Int} (h : Cuts d cs) (hd : d ≤ 6) (hl : cs.length ≤ 8000) : F_Key___str__ [.dat (keyD s cs)] = .ok (.dat (.str (kt cs))) [] := by
  have hg := cuts_dig h hd
  by_cases h0 : cs = []
  · subst h0
    simp [F_Key___str__, ev_body, frame, g_Key___str__, kt]
  · have h1 : ¬ ((cs.length : Int) = 0) := by
      have := List.length_pos_iff.mpr h0
      omega
    have hm := lc_map1 (i := 1) (tt := t0_Key___str__) (te := e0_Key___str__) (Γ := [some (.dat (keyD s cs)), none]) (a := D.int) (fun c => .str (num c)) rfl cs (fun c hc => by
      obtain ⟨a, b⟩ := hg c hc
      have a' : (-1000000000000000000 : Int) ≤ c := by omega
      have b' : c ≤ (1000000000000000000 : Int) := by omega
      refine ⟨rfl, .dat (.str (num c)), ?_, rfl⟩
      simp [e0_Key___str__, a', b']) (by omega)
    have hm2 : cs.map (fun c => D.str (num c)) = (cs.map num).map D.str := by simp [Function.comp_def]
    have hj : ((cs.map num).map (·.length)).sum + (cs.map num).length * ("-" : Str).length ≤ 16777216 := by
      have : ("-" : Str).length = 1 := rfl
      rw [sum_lens1 hg, this, List.length_map]
      omega
    have hj2 : joinD (.str "-") [.lst (cs.map fun c => D.str (num c))] = some (.dat (.str (Txt.join "-" (cs.map num)))) := by
      rw [hm2]
      exact join_str hj
    simp [F_Key___str__, ev_body, frame, g_Key___str__, kt, h0, h1, hm, hj2]
theorem cuts_cons {d c : Int} {cs : List Int} (h0 : 0 ≤ c) (h1 : c < d) (h : Cuts d cs) : Cuts d (c :: cs) := fun x hx => by
  rcases List.mem_cons.mp hx with rfl | hx
  · exact ⟨h0, h1⟩
  · exact h x hx
theorem cuts_nil {d : Int} : Cuts d [] := fun _ h => nomatch h
theorem cuts_small {d : Int} {cs : List Int} (h : Cuts d cs) (hd : d ≤ 1000) : Small cs := fun c hc => by
  have := h c hc
  omega
theorem e_koft {d m : Int} {cs : List Int} (h : Cuts d cs) (hl : cs.length ≤ 8000) : F_Key_of [.dat (.cls "Key"), .dat (sysD d m), .dat (.tup (cs.map .int))] = .ok (.dat (keyD (sysD d m) cs)) [] := by
  have hz : cs.length ≤ sizeLine := Nat.le_trans hl (by decide)
  simp [F_Key_of, ev_body, frame, g_Key_of, e_kinit h hl, hz, Function.comp_def]
theorem e_kofp {d m : Int} {cs : List Int} (h : Cuts d cs) (hl : cs.length ≤ 8000) : F_Key_of [.dat (.cls "Key"), .dat (sysD d m), .par (.lst (cs.map .int))] = .ok (.dat (keyD (sysD d m) cs)) [.lst (cs.map .int)] := by
  have hz : cs.length ≤ sizeLine := Nat.le_trans hl (by decide)
  simp [F_Key_of, ev_body, frame, g_Key_of, e_kinit h hl, hz, Function.comp_def]
/-! ## things -/
inductive Sx where
  | a | b | c
deriving DecidableEq
def sxS : Sx → Str
  | .a => "0-1"
  | .b => ""
  | .c => "zz9"
inductive Th where
  | non | int (i : Int) | str (z : Sx) | tup (n : Int) | lst (n : Int) | dct (n : Int) | sys | key (c : List Int)
deriving DecidableEq
def thD (d m : Int) : Th → D
  | .non => .non
  | .int i => .int i
  | .str z => .str (sxS z)
  | .tup n => .tup [.int n]
  | .lst n => .lst [.int n]
  | .dct n => .dct [(.inr "a", .int n)]
  | .sys => sysD d m
  | .key c => keyD (sysD d m) c
def plD : Th → D
  | .key c => .int c.length
  | _ => .non
abbrev crD (d m : Int) (x y : Th) : D := mkI_Crossing (thD d m x) (thD d m y) (plD x)
theorem eqO_t1 {neg : Bool} (i j : Int) : eqO cs ts eqT2 neg (.tup [.int i]) (.tup [.int j]) = some (.dat (.bl (neg ^^ decide (i = j)))) := by
  have := eqO_ints (us := cs) (tt := ts) (T := eqT2) (neg := neg) [i] [j]
  simp only [List.map_cons, List.map_nil] at this
  rw [this]
  rw [show ([i] == [j]) = decide (i = j) by by_cases h : i = j <;> simp [h]]
theorem eqO_l1 {neg : Bool} (i j : Int) : eqO cs ts eqT2 neg (.lst [.int i]) (.lst [.int j]) = some (.dat (.bl (neg ^^ decide (i = j)))) := by
  have := eqO_lints (us := cs) (tt := ts) (T := eqT2) (neg := neg) [i] [j]
  simp only [List.map_cons, List.map_nil] at this
  rw [this]
  rw [show ([i] == [j]) = decide (i = j) by by_cases h : i = j <;> simp [h]]
theorem dct1 (i j : Int) : dctE [(.inr "a", .int i)] [(.inr "a", .int j)] = some (decide (i = j)) := by
  have e : valD [(.inr "a", D.int j)] (.inr "a") = some (.int j) := by kernel_rfl
  simp [dctE, dctH, e]
  by_cases h : i = j <;> simp [h]
theorem q_non_int (i2 : Int) : eqX cs ts eqT2 (.non) (.int i2) = some (.dat (.bl false)) := by kernel_rfl
theorem q_non_str (z2 : Sx) : eqX cs ts eqT2 (.non) (.str (sxS z2)) = some (.dat (.bl false)) := by cases z2 <;> kernel_rfl
theorem q_non_tup (n2 : Int) : eqX cs ts eqT2 (.non) (.tup [.int n2]) = some (.dat (.bl false)) := by kernel_rfl
theorem q_non_lst (l2 : Int) : eqX cs ts eqT2 (.non) (.lst [.int l2]) = some (.dat (.bl false)) := by kernel_rfl
theorem q_non_dct (k2 : Int) : eqX cs ts eqT2 (.non) (.dct [(.inr "a", .int k2)]) = some (.dat (.bl false)) := by kernel_rfl
theorem q_non_sys (d2 m2 : Int) : eqX cs ts eqT2 (.non) (sysD d2 m2) = some (.dat (.bl false)) := by kernel_rfl
theorem q_non_key (d2 m2 : Int) (c2 : List Int) : eqX cs ts eqT2 (.non) (keyD (sysD d2 m2) c2) = some (.dat (.bl false)) := by kernel_rfl
theorem q_int_non (i1 : Int) : eqX cs ts eqT2 (.int i1) (.non) = some (.dat (.bl false)) := by kernel_rfl
theorem q_int_str (i1 : Int) (z2 : Sx) : eqX cs ts eqT2 (.int i1) (.str (sxS z2)) = some (.dat (.bl false)) := by cases z2 <;> kernel_rfl
theorem q_int_tup (i1 : Int) (n2 : Int) : eqX cs ts eqT2 (.int i1) (.tup [.int n2]) = some (.dat (.bl false)) := by kernel_rfl
theorem q_int_lst (i1 : Int) (l2 : Int) : eqX cs ts eqT2 (.int i1) (.lst [.int l2]) = some (.dat (.bl false)) := by kernel_rfl
theorem q_int_dct (i1 : Int) (k2 : Int) : eqX cs ts eqT2 (.int i1) (.dct [(.inr "a", .int k2)]) = some (.dat (.bl false)) := by kernel_rfl
theorem q_int_sys (i1 : Int) (d2 m2 : Int) : eqX cs ts eqT2 (.int i1) (sysD d2 m2) = some (.dat (.bl false)) := by kernel_rfl
theorem q_int_key (i1 : Int) (d2 m2 : Int) (c2 : List Int) : eqX cs ts eqT2 (.int i1) (keyD (sysD d2 m2) c2) = some (.dat (.bl false)) := by kernel_rfl
theorem q_str_non (z1 : Sx) : eqX cs ts eqT2 (.str (sxS z1)) (.non) = some (.dat (.bl false)) := by cases z1 <;> kernel_rfl
theorem q_str_int (z1 : Sx) (i2 : Int) : eqX cs ts eqT2 (.str (sxS z1)) (.int i2) = some (.dat (.bl false)) := by cases z1 <;> kernel_rfl
theorem q_str_tup (z1 : Sx) (n2 : Int) : eqX cs ts eqT2 (.str (sxS z1)) (.tup [.int n2]) = some (.dat (.bl false)) := by cases z1 <;> kernel_rfl
theorem q_str_lst (z1 : Sx) (l2 : Int) : eqX cs ts eqT2 (.str (sxS z1)) (.lst [.int l2]) = some (.dat (.bl false)) := by cases z1 <;> kernel_rfl
theorem q_str_dct (z1 : Sx) (k2 : Int) : eqX cs ts eqT2 (.str (sxS z1)) (.dct [(.inr "a", .int k2)]) = some (.dat (.bl false)) := by cases z1 <;> kernel_rfl
theorem q_str_sys (z1 : Sx) (d2 m2 : Int) : eqX cs ts eqT2 (.str (sxS z1)) (sysD d2 m2) = some (.dat (.bl false)) := by cases z1 <;> kernel_rfl
theorem q_str_key (z1 : Sx) (d2 m2 : Int) (c2 : List Int) : eqX cs ts eqT2 (.str (sxS z1)) (keyD (sysD d2 m2) c2) = some (.dat (.bl false)) := by cases z1 <;> kernel_rfl
theorem q_tup_non (n1 : Int) : eqX cs ts eqT2 (.tup [.int n1]) (.non) = some (.dat (.bl false)) := by kernel_rfl
theorem q_tup_int (n1 : Int) (i2 : Int) : eqX cs ts eqT2 (.tup [.int n1]) (.int i2) = some (.dat (.bl false)) := by kernel_rfl
theorem q_tup_str (n1 : Int) (z2 : Sx) : eqX cs ts eqT2 (.tup [.int n1]) (.str (sxS z2)) = some (.dat (.bl false)) := by cases z2 <;> kernel_rfl
theorem q_tup_lst (n1 : Int) (l2 : Int) : eqX cs ts eqT2 (.tup [.int n1]) (.lst [.int l2]) = some (.dat (.bl false)) := by kernel_rfl
theorem q_tup_dct (n1 : Int) (k2 : Int) : eqX cs ts eqT2 (.tup [.int n1]) (.dct [(.inr "a", .int k2)]) = some (.dat (.bl false)) := by kernel_rfl
theorem q_tup_sys (n1 : Int) (d2 m2 : Int) : eqX cs ts eqT2 (.tup [.int n1]) (sysD d2 m2) = some (.dat (.bl false)) := by kernel_rfl
theorem q_tup_key (n1 : Int) (d2 m2 : Int) (c2 : List Int) : eqX cs ts eqT2 (.tup [.int n1]) (keyD (sysD d2 m2) c2) = some (.dat (.bl false)) := by kernel_rfl
theorem q_lst_non (l1 : Int) : eqX cs ts eqT2 (.lst [.int l1]) (.non) = some (.dat (.bl false)) := by kernel_rfl
theorem q_lst_int (l1 : Int) (i2 : Int) : eqX cs ts eqT2 (.lst [.int l1]) (.int i2) = some (.dat (.bl false)) := by kernel_rfl
theorem q_lst_str (l1 : Int) (z2 : Sx) : eqX cs ts eqT2 (.lst [.int l1]) (.str (sxS z2)) = some (.dat (.bl false)) := by cases z2 <;> kernel_rfl
theorem q_lst_tup (l1 : Int) (n2 : Int) : eqX cs ts eqT2 (.lst [.int l1]) (.tup [.int n2]) = some (.dat (.bl false)) := by kernel_rfl
theorem q_lst_dct (l1 : Int) (k2 : Int) : eqX cs ts eqT2 (.lst [.int l1]) (.dct [(.inr "a", .int k2)]) = some (.dat (.bl false)) := by kernel_rfl
theorem q_lst_sys (l1 : Int) (d2 m2 : Int) : eqX cs ts eqT2 (.lst [.int l1]) (sysD d2 m2) = some (.dat (.bl false)) := by kernel_rfl
theorem q_lst_key (l1 : Int) (d2 m2 : Int) (c2 : List Int) : eqX cs ts eqT2 (.lst [.int l1]) (keyD (sysD d2 m2) c2) = some (.dat (.bl false)) := by kernel_rfl
theorem q_dct_non (k1 : Int) : eqX cs ts eqT2 (.dct [(.inr "a", .int k1)]) (.non) = some (.dat (.bl false)) := by kernel_rfl
theorem q_dct_int (k1 : Int) (i2 : Int) : eqX cs ts eqT2 (.dct [(.inr "a", .int k1)]) (.int i2) = some (.dat (.bl false)) := by kernel_rfl
theorem q_dct_str (k1 : Int) (z2 : Sx) : eqX cs ts eqT2 (.dct [(.inr "a", .int k1)]) (.str (sxS z2)) = some (.dat (.bl false)) := by cases z2 <;> kernel_rfl
theorem q_dct_tup (k1 : Int) (n2 : Int) : eqX cs ts eqT2 (.dct [(.inr "a", .int k1)]) (.tup [.int n2]) = some (.dat (.bl false)) := by kernel_rfl
theorem q_dct_lst (k1 : Int) (l2 : Int) : eqX cs ts eqT2 (.dct [(.inr "a", .int k1)]) (.lst [.int l2]) = some (.dat (.bl false)) := by kernel_rfl
theorem q_dct_sys (k1 : Int) (d2 m2 : Int) : eqX cs ts eqT2 (.dct [(.inr "a", .int k1)]) (sysD d2 m2) = some (.dat (.bl false)) := by kernel_rfl
theorem q_dct_key (k1 : Int) (d2 m2 : Int) (c2 : List Int) : eqX cs ts eqT2 (.dct [(.inr "a", .int k1)]) (keyD (sysD d2 m2) c2) = some (.dat (.bl false)) := by kernel_rfl
theorem q_sys_non (d1 m1 : Int) : eqX cs ts eqT2 (sysD d1 m1) (.non) = some (.dat (.bl false)) := by kernel_rfl
theorem q_sys_int (d1 m1 : Int) (i2 : Int) : eqX cs ts eqT2 (sysD d1 m1) (.int i2) = some (.dat (.bl false)) := by kernel_rfl
theorem q_sys_str (d1 m1 : Int) (z2 : Sx) : eqX cs ts eqT2 (sysD d1 m1) (.str (sxS z2)) = some (.dat (.bl false)) := by cases z2 <;> kernel_rfl
theorem q_sys_tup (d1 m1 : Int) (n2 : Int) : eqX cs ts eqT2 (sysD d1 m1) (.tup [.int n2]) = some (.dat (.bl false)) := by kernel_rfl
theorem q_sys_lst (d1 m1 : Int) (l2 : Int) : eqX cs ts eqT2 (sysD d1 m1) (.lst [.int l2]) = some (.dat (.bl false)) := by kernel_rfl
theorem q_sys_dct (d1 m1 : Int) (k2 : Int) : eqX cs ts eqT2 (sysD d1 m1) (.dct [(.inr "a", .int k2)]) = some (.dat (.bl false)) := by kernel_rfl
theorem q_sys_key (d1 m1 : Int) (d2 m2 : Int) (c2 : List Int) : eqX cs ts eqT2 (sysD d1 m1) (keyD (sysD d2 m2) c2) = some (.dat (.bl false)) := by kernel_rfl
theorem q_key_non (d1 m1 : Int) (c1 : List Int) : eqX cs ts eqT2 (keyD (sysD d1 m1) c1) (.non) = some (.dat (.bl false)) := by kernel_rfl
theorem q_key_int (d1 m1 : Int) (c1 : List Int) (i2 : Int) : eqX cs ts eqT2 (keyD (sysD d1 m1) c1) (.int i2) = some (.dat (.bl false)) := by kernel_rfl
theorem q_key_str (d1 m1 : Int) (c1 : List Int) (z2 : Sx) : eqX cs ts eqT2 (keyD (sysD d1 m1) c1) (.str (sxS z2)) = some (.dat (.bl false)) := by cases z2 <;> kernel_rfl
theorem q_key_tup (d1 m1 : Int) (c1 : List Int) (n2 : Int) : eqX cs ts eqT2 (keyD (sysD d1 m1) c1) (.tup [.int n2]) = some (.dat (.bl false)) := by kernel_rfl
theorem q_key_lst (d1 m1 : Int) (c1 : List Int) (l2 : Int) : eqX cs ts eqT2 (keyD (sysD d1 m1) c1) (.lst [.int l2]) = some (.dat (.bl false)) := by kernel_rfl
theorem q_key_dct (d1 m1 : Int) (c1 : List Int) (k2 : Int) : eqX cs ts eqT2 (keyD (sysD d1 m1) c1) (.dct [(.inr "a", .int k2)]) = some (.dat (.bl false)) := by kernel_rfl
theorem q_key_sys (d1 m1 : Int) (c1 : List Int) (d2 m2 : Int) : eqX cs ts eqT2 (keyD (sysD d1 m1) c1) (sysD d2 m2) = some (.dat (.bl false)) := by kernel_rfl
theorem eq_th (d m : Int) (x y : Th) : eqX cs ts eqT2 (thD d m x) (thD d m y) = some (.dat (.bl (decide (x = y)))) := by
  cases x with
  | non => cases y with
    | non => kernel_rfl
    | int i' => exact q_non_int i'
    | str z' => exact q_non_str z'
    | tup n' => exact q_non_tup n'
    | lst n' => exact q_non_lst n'
    | dct n' => exact q_non_dct n'
    | sys => exact q_non_sys d m
    | key c' => exact q_non_key d m c'
  | int i => cases y with
    | non => exact q_int_non i
    | int i' => simp [thD]
    | str z' => exact q_int_str i z'
    | tup n' => exact q_int_tup i n'
    | lst n' => exact q_int_lst i n'
    | dct n' => exact q_int_dct i n'
    | sys => exact q_int_sys i d m
    | key c' => exact q_int_key i d m c'
  | str z => cases y with
    | non => exact q_str_non z
    | int i' => exact q_str_int z i'
    | str z' => cases z <;> cases z' <;> kernel_rfl
    | tup n' => exact q_str_tup z n'
    | lst n' => exact q_str_lst z n'
    | dct n' => exact q_str_dct z n'
    | sys => exact q_str_sys z d m
    | key c' => exact q_str_key z d m c'
  | tup n => cases y with
    | non => exact q_tup_non n
    | int i' => exact q_tup_int n i'
    | str z' => exact q_tup_str n z'
    | tup n' => simp only [thD, Th.tup.injEq]; exact (eqO_t1 (neg := false) n n').trans (by rw [Bool.false_xor])
    | lst n' => exact q_tup_lst n n'
    | dct n' => exact q_tup_dct n n'
    | sys => exact q_tup_sys n d m
    | key c' => exact q_tup_key n d m c'
  | lst n => cases y with
    | non => exact q_lst_non n
    | int i' => exact q_lst_int n i'
    | str z' => exact q_lst_str n z'
    | tup n' => exact q_lst_tup n n'
    | lst n' => simp only [thD, Th.lst.injEq]; exact (eqO_l1 (neg := false) n n').trans (by rw [Bool.false_xor])
    | dct n' => exact q_lst_dct n n'
    | sys => exact q_lst_sys n d m
    | key c' => exact q_lst_key n d m c'
  | dct n => cases y with
    | non => exact q_dct_non n
    | int i' => exact q_dct_int n i'
    | str z' => exact q_dct_str n z'
    | tup n' => exact q_dct_tup n n'
    | lst n' => exact q_dct_lst n n'
    | dct n' => simp only [thD, Th.dct.injEq]; show (dctE [(.inr "a", .int n)] [(.inr "a", .int n')]).map (fun b => Sl.dat (.bl b)) = _; rw [dct1]; rfl
    | sys => exact q_dct_sys n d m
    | key c' => exact q_dct_key n d m c'
  | sys => cases y with
    | non => exact q_sys_non d m
    | int i' => exact q_sys_int d m i'
    | str z' => exact q_sys_str d m z'
    | tup n' => exact q_sys_tup d m n'
    | lst n' => exact q_sys_lst d m n'
    | dct n' => exact q_sys_dct d m n'
    | sys => show eqO cs ts eqT2 false (sysD d m) (sysD d m) = _; simp
    | key c' => exact q_sys_key d m d m c'
  | key c => cases y with
    | non => exact q_key_non d m c
    | int i' => exact q_key_int d m c i'
    | str z' => exact q_key_str d m c z'
    | tup n' => exact q_key_tup d m c n'
    | lst n' => exact q_key_lst d m c n'
    | dct n' => exact q_key_dct d m c n'
    | sys => exact q_key_sys d m c d m
    | key c' => show eqO cs ts eqT2 false (keyD (sysD d m) c) (keyD (sysD d m) c') = _; simp; by_cases h : c = c' <;> simp [h]
end K46
end
section
set_option maxHeartbeats 4000000
set_option autoImplicit false
namespace K46
open PySem PySem.Spec PyProof.Rows L2 Tx He Hx Dl
@[simp] theorem e_crinit (d m : Int) (x y : Th) : F_Crossing___init__ [.par (.ins "Crossing" []), .dat (thD d m x), .dat (thD d m y)] = .ok (.dat .non) [crD d m x y] := by
  cases x <;> kernel_rfl
theorem isC (k o p : D) : isiD cs isT [mkI_Crossing k o p, .cls "Crossing"] = some (.dat (.bl true)) := by kernel_rfl
theorem isCt (d m : Int) (x : Th) : isiD cs isT [thD d m x, .cls "Crossing"] = some (.dat (.bl false)) := by
  cases x <;> kernel_rfl
@[simp] theorem e_creq (d m : Int) (x y x' y' : Th) : F_Crossing___eq__ [.dat (crD d m x y), .dat (crD d m x' y')] = .ok (.dat (.bl (decide (x = x') && decide (y = y')))) [] := by
  by_cases h : x = x' <;> simp [F_Crossing___eq__, ev_body, frame, g_Crossing___eq__, eq_th, h]
theorem e_creqo {d m : Int} {x y : Th} {e : D} (h : isiD cs isT [e, .cls "Crossing"] = some (.dat (.bl false))) : F_Crossing___eq__ [.dat (crD d m x y), .dat e] = .ok (.dat (.bl false)) [] := by
  simp [F_Crossing___eq__, ev_body, frame, g_Crossing___eq__, h]
/-! ## in the law: the table with Crossing -/
theorem eq3_th (d m : Int) (x y : Th) : eqX cs ts eqT3 (thD d m x) (thD d m y) = some (.dat (.bl (decide (x = y)))) := by
  have e : eqX cs ts eqT3 (thD d m x) (thD d m y) = eqX cs ts eqT2 (thD d m x) (thD d m y) := by cases x <;> cases y <;> rfl
  rw [e, eq_th]
theorem ne3_th (d m : Int) (x : Th) : neX cs ts eqT3 (thD d m x) (thD d m x) = some (.dat (.bl false)) := by
  cases x with
  | dct n => 
    show (dctE [(.inr "a", .int n)] [(.inr "a", .int n)]).map (fun b => Sl.dat (.bl (!b))) = _
    rw [dct1]
    simp
  | tup n => exact (eqO_t1 (neg := true) n n).trans (by simp)
  | lst n => exact (eqO_l1 (neg := true) n n).trans (by simp)
  | sys =>
    show eqO cs ts eqT3 true (sysD d m) (sysD d m) = _
    simp
  | key c =>
    show eqO cs ts eqT3 true (keyD (sysD d m) c) (keyD (sysD d m) c) = _
    simp
  | non => kernel_rfl
  | int i => simp [thD]
  | str z => cases z <;> kernel_rfl
theorem eq3_cr {k o p e : D} : eqX cs ts eqT3 (mkI_Crossing k o p) e = eqO cs ts eqT3 false (mkI_Crossing k o p) e := rfl
theorem ne3_cr {k o p e : D} : neX cs ts eqT3 (mkI_Crossing k o p) e = eqO cs ts eqT3 true (mkI_Crossing k o p) e := rfl
theorem tyTh (d m : Int) (x : Th) : tyOk cs ts (thD d m x) = true := by cases x <;> kernel_rfl
theorem kt_len {d : Int} {a : List Int} (ha : Cuts d a) (hd : d ≤ 6) (la : a.length ≤ 100) : (kt a).length ≤ 300 := by
  unfold kt
  split
  · exact Nat.le_trans (show (1 : Nat) ≤ 300 by decide) (Nat.le_refl _)
  · have := join_nums_len (y := "-") (s := 45) (by decide +kernel) (cuts_dig ha hd)
    omega
theorem fmt_key {s : D} {d : Int} {a : List Int} (ha : Cuts d a) (hd : d ≤ 6) (la : a.length ≤ 100) : fmtO strT1 (keyD s a) = some (.dat (.str (kt a))) := by
  have k1 := e_kstr (s := s) ha hd (show a.length ≤ 8000 by omega)
  have hz : (kt a).length ≤ sizeLine := len_size (Nat.le_trans (kt_len ha hd la) (by decide))
  have e : fmtO strT1 (keyD s a) = (match F_Key___str__ [.dat (keyD s a)] with
    | .ok (.dat (.str z)) [] => if z.length ≤ sizeLine then some (.dat (.str z)) else none
    | _ => none) := by rfl
  rw [e, k1]
  exact if_pos hz
theorem e_app (z : Str) : Str.empty ++ z = z := by
  obtain ⟨c⟩ := z
  show (⟨#[] ++ c⟩ : Str) = ⟨c⟩
  rw [Array.empty_append]
theorem e_crstr {s : D} {d : Int} {a b : List Int} {p : D} (ha : Cuts d a) (hb : Cuts d b) (hd : d ≤ 6) (la : a.length ≤ 100) (lb : b.length ≤ 100) : F_Crossing___str__ [.dat (mkI_Crossing (keyD s a) (keyD s b) p)] = .ok (.dat (.str (kt a ++ " opens " ++ kt b))) [] := by
  have k1 := fmt_key (s := s) ha hd la
  have k2 := fmt_key (s := s) hb hd lb
  have z1 := kt_len ha hd la
  have z2 := kt_len hb hd lb
  have z3 : (" opens " : Str).length = 7 := rfl
  have z7 := e_app (kt a)
  have z6 : (Str.empty ++ kt a).length ≤ sizeLine := len_size (by rw [e_app]; omega)
  have z4 : (kt a ++ (" opens " : Str)).length ≤ sizeLine := len_size (by rw [Str.length_append, z3]; omega)
  have z5 : (kt a ++ (" opens " : Str) ++ kt b).length ≤ sizeLine := len_size (by rw [Str.length_append, Str.length_append, z3]; omega)
  simp [F_Crossing___str__, ev_body, frame, g_Crossing___str__, k1, k2, z4, z5, joR_str z6]
  rw [z7]
  simp [k2, z4, z5]
theorem draw {k n : Int} {d : D} (h : PenAt k d) (hk : k ≤ 1000000) (hn : 0 < n) (hm : n < 18446744073709551616) : ∃ i d', F__law_draw [.par d, .dat (.int n)] = .ok (.dat (.int i)) [d'] ∧ 0 ≤ i ∧ i < n ∧ PenAt (k + 1) d' := draw_pen h hk fun ha hb => draw_A (us := cs) (tt := ts) (T := eqT3) (n1 := 48069) (n2 := 1645) (m1 := 2147483563) (k1 := 53711) (k2 := 147) (M1 := 2147483629) (c3 := 297) (k3 := 42447) (c4 := 17) (M2 := 2147483549) (sh := 32) ⟨by decide, by decide, by decide, by decide, by decide, by decide, by decide, by decide, by decide⟩ ha hb hn hm
theorem pick {k : Int} {d : D} {xs : List D} (h : PenAt k d) (hk : k ≤ 1000000) (h0 : xs ≠ []) (hl : xs.length ≤ sizeLine) : ∃ x ∈ xs, ∃ d', F__law_pick [.par d, .dat (.lst xs)] = .ok (.dat x) [d'] ∧ PenAt (k + 1) d' := by
  have hl0 : 0 < xs.length := List.length_pos_iff.mpr h0
  have hs : sizeLine < 18446744073709551616 := by rw [sizeLine_eq]; decide
  obtain ⟨i, d1, e1, i0, i1, h1⟩ := draw (n := (xs.length : Int)) h hk (by omega) (by omega)
  obtain ⟨x, hx, e2⟩ := at_in i0 i1
  refine ⟨x, hx, d1, ?_, h1⟩
  simp [F__law_pick, ev_body, frame, g__law_pick, e1, e2]
theorem e_key {k dd m : Int} {d : D} (h : PenAt k d) (hk : k ≤ 900000) (h1 : 2 ≤ dd) (h2 : dd ≤ 6) (h3 : 0 ≤ m) (h4 : m < dd) : ∃ (c : List Int) (d' : D), F__law_key [.par d, .dat (sysD dd m)] = .ok (.dat (keyD (sysD dd m) c)) [d'] ∧ PenAt (k + 6) d' ∧ Cuts dd c ∧ c.length ≤ 5 := by
  obtain ⟨n, d1, e1, n0, n1, g1⟩ := draw (n := 5) h (by omega) (by omega) (by omega)
  obtain ⟨c, d2, l, e2, q, g2⟩ := lc_pen (gt := gD 2) (tt := t0__law_key) (te := e0__law_key) (vs := [2]) (a := D.int) (P := fun j pn => PenAt (k + 1 + (j : Int)) pn) (Qv := fun c => 0 ≤ c ∧ c < dd) 5 (fun pn => [some (.par pn), some (.dat (sysD dd m)), none]) (fun j pn z hj hP => by
    obtain ⟨c, d2, e2, c0, c1, g2⟩ := draw (n := dd) hP (by omega) (by omega) (by omega)
    refine ⟨_, _, c, .dat (.int c), [some (.par d2), some (.dat (sysD dd m)), some (.dat z)], d2, rfl, rfl, ?_, rfl, rfl, rfl, ⟨c0, c1⟩, g2.mono (by omega)⟩
    simp [e0__law_key, e2]) (rngD 0 n.toNat) [] 0 d1 (g1.mono (by omega)) (by rw [rngD_len]; omega) (by rw [rngD_len]; simp; omega)
  rw [rngD_len] at l g2
  have hc : Cuts dd c := q
  have hl : c.length ≤ 5 := by omega
  refine ⟨c, d2, ?_, g2.mono (by omega), hc, hl⟩
  have hk := e_kof hc (show c.length ≤ 8000 by omega) (m := m)
  have b1 : -4611686018427387904 ≤ n := by omega
  have b2 : n < 4611686018427387904 := by omega
  simp [F__law_key, ev_body, frame, g__law_key, e1, e2, b1, b2, hk]
end K46
end
section
set_option maxHeartbeats 4000000
set_option autoImplicit false
namespace K46
open PySem PySem.Spec PyProof.Rows L2 Tx He Hx Dl
@[simp] theorem op30 : opPow (.int 10) (.int 30) = some (.dat (.int 1000000000000000000000000000000)) := by kernel_rfl
def Good (d : Int) : Th → Prop
  | .key c => Cuts d c ∧ c.length ≤ 5
  | .str z => z ≠ .c
  | _ => True
theorem good_ne {d : Int} {x : Th} (h : Good d x) : x ≠ .str .c := fun e => by subst e; exact h rfl
theorem e_thing {k dd m : Int} {d : D} (h : PenAt k d) (hk : k ≤ 800000) (h1 : 2 ≤ dd) (h2 : dd ≤ 6) (h3 : 0 ≤ m) (h4 : m < dd) : ∃ (x : Th) (d' : D), F__law_thing [.par d, .dat (sysD dd m)] = .ok (.dat (thD dd m x)) [d'] ∧ PenAt (k + 8) d' ∧ Good dd x := by
  obtain ⟨i, d1, e1, i0, i1, g1⟩ := draw (n := 9) h (by omega) (by omega) (by omega)
  obtain ⟨j, d2, e2, j0, j1, g2⟩ := draw (n := 2) g1 (by omega) (by omega) (by omega)
  by_cases hj : j = 0
  · obtain ⟨c, d3, e3, g3, hc, hl⟩ := e_key g2 (by omega) h1 h2 h3 h4
    refine ⟨.key c, d3, ?_, g3.mono (by omega), hc, hl⟩
    simp [F__law_thing, ev_body, frame, g__law_thing, e1, e2, hj, e3, thD]
  · obtain ⟨x, hx, d3, e3, g3⟩ := pick (xs := [.non, .int (2 + i), .str "0-1", .str "", .tup [.int (2 + i)], .lst [.int (2 + i)], .dct [(.inr "a", .int (2 + i))], sysD dd m, .int 1000000000000000000000000000000, .int (-(2 + i))]) g2 (by omega) (by simp) (len_size (by simp))
    have hn : ∃ th, x = thD dd m th ∧ Good dd th := by
      simp only [List.mem_cons, List.not_mem_nil, or_false] at hx
      rcases hx with rfl | rfl | rfl | rfl | rfl | rfl | rfl | rfl | rfl | rfl
      · exact ⟨.non, rfl, trivial⟩
      · exact ⟨.int (2 + i), rfl, trivial⟩
      · exact ⟨.str .a, rfl, fun e => nomatch e⟩
      · exact ⟨.str .b, rfl, fun e => nomatch e⟩
      · exact ⟨.tup (2 + i), rfl, trivial⟩
      · exact ⟨.lst (2 + i), rfl, trivial⟩
      · exact ⟨.dct (2 + i), rfl, trivial⟩
      · exact ⟨.sys, rfl, trivial⟩
      · exact ⟨.int 1000000000000000000000000000000, rfl, trivial⟩
      · exact ⟨.int (-(2 + i)), rfl, trivial⟩
    obtain ⟨th, rfl, hg⟩ := hn
    refine ⟨th, d3, ?_, g3.mono (by omega), hg⟩
    simp [F__law_thing, ev_body, frame, g__law_thing, e1, e2, hj, e3]
theorem e_pen {xs : List Int} (h : xs.length ≤ 63) : F__law_pen [.dat (.scr (xs.map .int))] = .ok (.own (penD xs 0 0)) [] := by
  have c := cut_all (xs := xs.map .int) (by simpa using h)
  simp [F__law_pen, ev_body, frame, g__law_pen, c]
theorem isKey (d m : Int) (x : Th) : isiD cs isT [thD d m x, .cls "Key"] = some (.dat (.bl (match x with | .key _ => true | _ => false))) := by
  cases x <;> kernel_rfl
theorem isK2 (d m : Int) (x : Th) : (isiD cs isT [thD d m x, .cls "Key"] = some (.dat (.bl true)) ∧ fldD flc_places "places" (thD d m x) = some (.dat (plD x))) ∨ (isiD cs isT [thD d m x, .cls "Key"] = some (.dat (.bl false)) ∧ plD x = .non) := by
  cases x with
  | key c => exact .inl ⟨by kernel_rfl, by kernel_rfl⟩
  | _ => exact .inr ⟨by kernel_rfl, rfl⟩
theorem plK (d m : Int) (c : List Int) : fldD flc_places "places" (keyD (sysD d m) c) = some (.dat (.int c.length)) := by simp
theorem plC (k o p : D) : fldD flc_places "places" (mkI_Crossing k o p) = some (.dat p) := by simp
theorem e_crz1 (d m : Int) (y : Th) : F_Crossing___init__ [.par (.ins "Crossing" []), .dat (.str "zz9"), .dat (thD d m y)] = .ok (.dat .non) [crD d m (.str .c) y] := e_crinit d m (.str .c) y
theorem e_crz2 (d m : Int) (x : Th) : F_Crossing___init__ [.par (.ins "Crossing" []), .dat (thD d m x), .dat (.str "zz9")] = .ok (.dat .non) [crD d m x (.str .c)] := e_crinit d m x (.str .c)
theorem e_crk (d m : Int) (a b : List Int) : F_Crossing___init__ [.par (.ins "Crossing" []), .dat (keyD (sysD d m) a), .dat (keyD (sysD d m) b)] = .ok (.dat .non) [mkI_Crossing (keyD (sysD d m) a) (keyD (sysD d m) b) (.int a.length)] := e_crinit d m (.key a) (.key b)
theorem c_cr (d m : Int) (x y x' y' : Th) : eqX cs ts eqT3 (crD d m x y) (crD d m x' y') = some (.dat (.bl (decide (x = x') && decide (y = y')))) := by
  rw [eq3_cr]
  simp
theorem n_cr (d m : Int) (x y x' y' : Th) : neX cs ts eqT3 (crD d m x y) (crD d m x' y') = some (.dat (.bl (!(decide (x = x') && decide (y = y'))))) := by
  rw [ne3_cr]
  simp
theorem c_tup (d m : Int) (x y : Th) (l : List D) : eqX cs ts eqT3 (crD d m x y) (.tup l) = some (.dat (.bl false)) := by
  rw [eq3_cr]
  simp [e_creqo]
theorem c_non (d m : Int) (x y : Th) : eqX cs ts eqT3 (crD d m x y) .non = some (.dat (.bl false)) := by
  rw [eq3_cr]
  simp [e_creqo]
theorem c_th (d m : Int) (x y z : Th) : eqX cs ts eqT3 (crD d m x y) (thD d m z) = some (.dat (.bl false)) := by
  rw [eq3_cr]
  simp [e_creqo (isCt d m z), tyTh]
theorem rpP {x : Th} {d : Int} (h : Good d x) : ∃ z, reprD [plD x] = some (.dat (.str z)) := by
  cases x with
  | key c => exact ⟨_, repr_eq (rp_small (by have := h.2; omega) (by have := h.2; omega)) (by decide) (by decide)⟩
  | _ => exact ⟨"None", by kernel_rfl⟩
theorem l_b0 {k : Int} {pn : D} (h : PenAt k pn) (hk : k ≤ 700000) (s0 s2 s3 s4 s5 s6 s7 s8 s9 s10 s11 : Option Sl) : ∃ pn' y3 y4 y5 y6 y7 y8 y9 y10 y11, PenAt (k + 30) pn' ∧ b0_law [s0, some (.own pn), s2, s3, s4, s5, s6, s7, s8, s9, s10, s11] = .nx [s0, some (.own pn'), s2, y3, y4, y5, y6, y7, y8, y9, y10, y11] := by
  obtain ⟨i, d1, e1, i0, i1, g1⟩ := draw (n := 5) h (by omega) (by omega) (by omega)
  obtain ⟨m, d2, e2, m0, m1, g2⟩ := draw (n := 2 + i) g1 (by omega) (by omega) (by omega)
  obtain ⟨x, d3, e3, g3, hx⟩ := e_thing g2 (by omega) (show 2 ≤ 2 + i by omega) (by omega) m0 m1
  obtain ⟨y, d4, e4, g4, hy⟩ := e_thing g3 (by omega) (show 2 ≤ 2 + i by omega) (by omega) m0 m1
  obtain ⟨a, d5, e5, g5, ha, la⟩ := e_key g4 (by omega) (show 2 ≤ 2 + i by omega) (by omega) m0 m1
  obtain ⟨b, d6, e6, g6, hb, lb⟩ := e_key g5 (by omega) (show 2 ≤ 2 + i by omega) (by omega) m0 m1
  refine ⟨d6, some (.dat (.int (2 + i))), some (.dat (sysD (2 + i) m)), some (.dat (thD (2 + i) m x)), some (.dat (thD (2 + i) m y)), some (.dat (crD (2 + i) m x y)), some (.dat (crD (2 + i) m x y)), some (.dat (plD x)), some (.dat (keyD (sysD (2 + i) m) a)), some (.dat (keyD (sysD (2 + i) m) b)), g6.mono (by omega), ?_⟩
  have q1 : 2 ≤ 2 + i := by omega
  have q2 : 2 + i ≤ 6 := by omega
  have k1 := e_kstr (s := sysD (2 + i) m) ha (by omega) (by omega)
  have k2 := e_kstr (s := sysD (2 + i) m) hb (by omega) (by omega)
  have k3 := e_crstr (s := sysD (2 + i) m) (p := .int a.length) ha hb (by omega) (by omega) (by omega)
  have nx := good_ne hx
  have ny := good_ne hy
  obtain ⟨rz, hz⟩ := rpP hx
  have z1 := kt_len ha q2 (show a.length ≤ 100 by omega)
  have z2 := kt_len hb q2 (show b.length ≤ 100 by omega)
  have z3 : (" opens " : Str).length = 7 := rfl
  have z4 : (kt a).length + (" opens " : Str).length ≤ sizeLine := len_size (by rw [z3]; omega)
  have z5 : (kt a ++ (" opens " : Str)).length + (kt b).length ≤ sizeLine := len_size (by rw [Str.length_append, z3]; omega)
  have nx' : ¬ Th.str Sx.c = x := fun e => nx e.symm
  have ny' : ¬ Th.str Sx.c = y := fun e => ny e.symm
  have sw : (decide (x = y) && decide (y = x)) = decide (x = y) := by by_cases e : x = y <;> simp [e]
  have n2 : x = y → neX cs ts eqT3 (thD (2 + i) m x) (thD (2 + i) m y) = some (.dat (.bl false)) := fun e => by subst e; exact ne3_th _ _ _
  rcases isK2 (2 + i) m x with ⟨ik, pk⟩ | ⟨ik, pk⟩
  · by_cases hxy : x = y
    · have n3 := n2 hxy
      have dxy : decide (x = y) = true := decide_eq_true hxy
      have dyx : decide (y = x) = true := decide_eq_true hxy.symm
      simp [b0_law, e1, e2, e3, e4, e5, e6, q1, q2, m0, m1, ik, pk, eq3_th, hz, c_cr, n_cr, c_tup, c_non, c_th, e_crz1, e_crz2, e_crk, nx, ny, nx', ny', k1, k2, k3, z4, z5, n3, dxy, dyx]
    · simp [b0_law, e1, e2, e3, e4, e5, e6, q1, q2, m0, m1, ik, pk, eq3_th, hz, c_cr, n_cr, c_tup, c_non, c_th, e_crz1, e_crz2, e_crk, nx, ny, nx', ny', k1, k2, k3, z4, z5, hxy]
  · have hz2 : reprD [.non] = some (.dat (.str rz)) := by rw [← pk]; exact hz
    by_cases hxy : x = y
    · have n3 := n2 hxy
      have dxy : decide (x = y) = true := decide_eq_true hxy
      have dyx : decide (y = x) = true := decide_eq_true hxy.symm
      simp [b0_law, e1, e2, e3, e4, e5, e6, q1, q2, m0, m1, ik, eq3_th, hz, hz2, c_cr, n_cr, c_tup, c_non, c_th, e_crz1, e_crz2, e_crk, nx, ny, nx', ny', k1, k2, k3, z4, z5, n3, dxy, dyx, pk]
    · simp [b0_law, e1, e2, e3, e4, e5, e6, q1, q2, m0, m1, ik, eq3_th, hz, hz2, c_cr, n_cr, c_tup, c_non, c_th, e_crz1, e_crz2, e_crk, nx, ny, nx', ny', k1, k2, k3, z4, z5, hxy, pk]
theorem law_true {xs : List Int} (h : xs.length ≤ 63) : F_law [.dat (.scr (xs.map .int))] = .ok (.dat (.bl true)) [] := by
  obtain ⟨Γ', e, pn, s3, s4, s5, s6, s7, s8, s9, s10, s11, x2, h1, rfl⟩ := forL_inv (gt := gD 2) (b := b0_law) (N := 8) (fun j Γ => ∃ (pn : D) (s3 s4 s5 s6 s7 s8 s9 s10 s11 x2 : Option Sl), PenAt (30 * (j : Int)) pn ∧ Γ = [some (.dat (.scr (xs.map .int))), some (.own pn), x2, s3, s4, s5, s6, s7, s8, s9, s10, s11]) (rngD 0 8) 0 [some (.dat (.scr (xs.map .int))), some (.own (penD xs 0 0)), none, none, none, none, none, none, none, none, none, none]
    (fun z hz j Γ hj hI => by
      obtain ⟨pn, s3, s4, s5, s6, s7, s8, s9, s10, s11, x2, q1, rfl⟩ := hI
      obtain ⟨pn', y3, y4, y5, y6, y7, y8, y9, y10, y11, p1, e⟩ := l_b0 q1 (by omega) (some (.dat (.scr (xs.map .int)))) (some (.dat z)) s3 s4 s5 s6 s7 s8 s9 s10 s11
      exact ⟨_, _, rfl, e, pn', _, _, _, _, _, _, _, _, _, _, p1.mono (by omega), rfl⟩) (by rw [rngD_len]; decide) ⟨penD xs 0 0, _, _, _, _, _, _, _, _, _, _, ⟨xs, 0, 0, rfl, by decide, by decide⟩, rfl⟩
  simp [F_law, ev_body, frame, g_law, e_pen h, e]
end K46
end
section
set_option maxHeartbeats 4000000
namespace K46
open PySem PySem.Spec PyProof.Rows L2 Tx He Hx Dl
/-- no table may grow: the law makes no lambda -/
local instance : Tabl := ⟨[]⟩
def spLaw (K : PySem.W.Frag) : Sp := fun vs H Q _ => vs.length = 1 ∧ spE K F_law vs H Q fun _ _ _ => False
theorem facts {w : World} {K : PySem.W.Frag} {h : Heap} {mg : Str → Option Value} {f : Addr} (X : K.In h) (G : h.Ns mainGlobals mg) (hfa : mg ("law" : Str) = some (.ref f)) (c : SaysH fa fn exB K) :
    ∃ fd : FuncData, (∀ (s : Shared) (v : Value), BindsTo s fd ⟨[v], []⟩ [("_law_script", v)]) ∧ ∀ base : Heap, K.In base → base.Ns mainGlobals mg → FnG PySem.Challenge.pw_tenantcuts_k46_crossings_made w K mg base CX0 12 f fd ["_law_script"] (spLaw K) := by
  have W := wd_of X G c
  have ea := hfa.symm.trans W.g_law
  cases ea
  obtain ⟨fd, F, hb⟩ := ok_law (w := w) W
  exact ⟨fd, hb, fun base _ _ => F base⟩
end K46
open PySem PySem.W PySem.Calls PyProof.Rows
set_option maxRecDepth 100000 in
set_option maxHeartbeats 8000000 in
theorem PySem.Challenge.cw_tenantcuts_k46_crossings_made_holds : PySem.Challenge.rw_tenantcuts_k46_crossings_made.Holds := by
  w_on; o_law
  refine HandSHeadRun.head_any (r := OpenLaw.row PySem.Challenge.rw_tenantcuts_k46_crossings_made) (q := K46.qv) (H := K46.hk) (ob := K46.ob) (M := 8000) (loose := K46.loose) (d := HandSHeadRun.topDef (OpenLaw.row PySem.Challenge.rw_tenantcuts_k46_crossings_made).prog 35) (kwd := []) K46.ob_eq
    (by kernel_rfl) (fun s => by kernel_rfl) K46.run (by kernel_rfl) (by kernel_rfl) (by kernel_rfl) (by rfl) (by first | assumption | decide +kernel) (by decide +kernel) ⟨rfl, rfl, rfl, rfl, rfl, by decide +kernel⟩ ?hw ?hc
  case hw => w_witness2
  case hc =>
    refine Tx.walkG (l := PySem.Challenge.rw_tenantcuts_k46_crossings_made) (n := 63) (k := 12) (x := "_law_script") rfl (by decide) (by kernel_rfl) ⟨rfl, by decide, by decide⟩ ?F
    intro w mg fa h Y G hmg0
    obtain ⟨K, KX, c⟩ := Y
    have hmg : mg ("law" : PySem.Str) = some (.ref fa) := by
      have e1 : (HandSHeadRun.topDef (OpenLaw.row PySem.Challenge.rw_tenantcuts_k46_crossings_made).prog 35).name = ("law" : PySem.Str) := by kernel_rfl
      rw [← e1]
      exact hmg0
    obtain ⟨fd, hb, hF⟩ := K46.facts (w := w) KX G hmg c
    exact ⟨K, fd, K46.spLaw K, KX, hb, fun H a ns hl hS => ⟨rfl, @Dl.law_end ⟨[]⟩ _ _ (fun xs hx => K46.law_true hx) H a ns hl (fun p hp => nomatch hp) hS⟩, hF⟩
end
