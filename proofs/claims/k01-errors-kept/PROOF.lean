import PyProof.Rows.All
import Wide.All
import OpenK.AllK
import Wide.FinOn
import PyProof.EqAt
import PyProof.EqKinds
import PyProof.TupleCall
import HandS.ForMost
import HandS.Exc
import HandS.HeadEnd
import HandS.Defaults
import HandS.Deep
import PyProof.ReprRoads
import HandS.ExcInit
import HandS.ExcIs
import HandS.ExcOwn
import HandS.ExcValue
import HandS.HeadHook1
import HandS.Evl
import KE.KStateDown
import Lean
import HandS.Base
import HandS.Call
import HandS.Ends
import HandS.More
import HandS.Words
import HandS.WordsExc
import HandS.Head0
import HandS.Head1
import HandS.Head2
import HandS.HeadHook2
import HandS.Wide
import KE.KEqSeq
import HandS.HeadNt
import PyProof.StrBlock2
import PyProof.FitsInt
import HandS.Walk
import PySem.Challenge.RW_tenantcuts_k01_errors_kept
set_option Elab.async false
set_option linter.all false
set_option maxRecDepth 100000
set_option maxHeartbeats 4000000
/-! Defs that are called where no repr is under way (guards = some []): a promise that knows it. -/
namespace Tx
open PySem PySem.Spec PyProof.Rows L2
/-- the promise of a def, called where no repr is under way -/
structure FnG (P : Program) (w : World) (K : PySem.W.Frag) (mg : Str → Option Value) (base : Heap) (CX : CXT) (k : Nat) (f : Addr) (fd : FuncData) (ps : List Str) (sp : Sp) : Prop where
  len : ∀ vs H Q E, sp vs H Q E → vs.length = ps.length
  run : ∀ (A : Around) (outer : List Env) (s : Shared) (H : Hp) (args : Args) (us : List Value) (vs : List V) (Q : VK) (E : XK), A.guards = some [] → Room k A → Env0 P w K mg base A outer s H →
    BindsTo s fd args (ps.zip us) → Vals vs us → sp vs H Q E → codeAny (model P w) A (.call (.ref f) args) (CR CX outer P w H s Q E) s
theorem FnG.of_ok {P : Program} {w : World} {K : PySem.W.Frag} {mg : Str → Option Value} {base : Heap} {CX : CXT} {k : Nat} {f : Addr} {fd : FuncData} {ps : List Str} {sp : Sp} (F : FnOk P w K mg base CX k f fd ps sp) : FnG P w K mg base CX k f fd ps sp :=
  ⟨F.len, fun A outer s H args us vs Q E _ => F.run A outer s H args us vs Q E⟩
section
variable {P : Program} {w : World} {K : PySem.W.Frag} {mg : Str → Option Value} {base : Heap} {CX : CXT}
/-- one call of a def of the text, by the reading of its body at this very entry -/
theorem run_def {x qual : Str} {st : Stmt} {f : Addr} {fd : FuncData} {N ps : List Str} {k : Nat} (F : Fun K x qual st f fd) (S : FnScope N ps (defScope st)) {A : Around} {outer : List Env} {s : Shared} {H : Hp} {args : Args} {us : List Value} {vs : List V} {Q : VK} {E : XK}
    (room : Room (k + 1) A) (env0 : Env0 P w K mg base A outer s H) (bnd : BindsTo s fd args (ps.zip us)) (rel : Vals vs us) (hlen : vs.length = ps.length)
    (body : ∀ cdv : Value, ∃ t, PSs (cxOf CX P w K mg base N qual (defScope st) f cdv A outer s H E) (defBody st) t ∧ t { nx := fun _ H' => Q .non H', rt := Q } (start N vs) H) :
    codeAny (model P w) A (.call (.ref f) args) (CR CX outer P w H s Q E) s := by
  obtain ⟨oc, od, kV, doc, pm, an, cdv, ct, osl, rfl, look, code⟩ := F.ex
  obtain ⟨t, derived, reading⟩ := body cdv
  have inHeap : K.In s.heap := env0.mod.kin.keeps fun b o e => (env0.bs b o e).1
  refine codeAny_call_function room.depth (inHeap _ _ look) rfl S.co S.gen rfl (PySem.W.codeRec_of inHeap code) (bnd _ _ _ _ ?_)
  refine wpAny_newFunctionEnv_cells S.kind (fun y hy => ?_) fun env same s1 entered => ?_
  · rcases S.par y.1 (List.of_mem_zip hy).1 with loc | cel
    · exact Or.inl loc
    · exact Or.inr ⟨cel, PySem.W.cellsFrom_some _ _ _ (Or.inl cel)⟩
  · subst same
    refine ⟨(env0.mod.nolimit.keeps fun b o e => (env0.bs b o e).1).keeps entered.toInCall.keep, codeAny_func ?_⟩
    refine wpAny_mono (derived.run [] s1 (start N vs) H _ (inv_start S room.hd env0 hlen rel entered) reading) (fun flow s' ended => ?_) fun _ _ left => left
    cases flow with
    | ret u =>
      obtain ⟨v, σ', H', inv, rv, q⟩ := ended
      exact ⟨v, H', inv.os, inv.bare, inv.base, inv.hok, rv, q⟩
    | next =>
      obtain ⟨σ', H', inv, q⟩ := ended
      exact ⟨V.non, H', inv.os, inv.bare, inv.base, inv.hok, rfl, q⟩
    | brk =>
      obtain ⟨_, _, _, q⟩ := ended
      exact q.elim
    | cont =>
      obtain ⟨_, _, _, q⟩ := ended
      exact q.elim
/-- THE RULE for such a def -/
theorem FnG.of {x qual : Str} {st : Stmt} {f : Addr} {fd : FuncData} {N ps : List Str} {k : Nat} {sp : Sp} (F : Fun K x qual st f fd) (S : FnScope N ps (defScope st)) (len : ∀ vs H Q E, sp vs H Q E → vs.length = ps.length)
    (body : ∀ (cdv : Value) (A : Around) (outer : List Env) (s : Shared) (H : Hp) (vs : List V) (Q : VK) (E : XK), A.guards = some [] → Room k (A.deeper (envOfC qual (defScope st) s.heap.objs.size f cdv)) → sp vs H Q E →
      ∃ t, PSs (cxOf CX P w K mg base N qual (defScope st) f cdv A outer s H E) (defBody st) t ∧ t { nx := fun _ H' => Q .non H', rt := Q } (start N vs) H) : FnG P w K mg base CX (k + 1) f fd ps sp :=
  ⟨len, fun A outer s H args us vs Q E gd room env0 bnd rel hsp => run_def F S room env0 bnd rel (len _ _ _ _ hsp) fun cdv => body cdv A outer s H vs Q E gd (room.deeper _) hsp⟩
end
section
variable {X : Cx} {CX : CXT} {k : Nat} {f : Addr} {fd : FuncData} {ps : List Str} {sp : Sp} {dvs : List V} {ds : List Value} {E : XK} {x : Str} {p pos : Pos} {e : Expr} {es : List Expr} {t : TA}
theorem run_g {pins : List (Addr × Obj)} {σ : L2.St} {H : Hp} {s : Shared} {Q : VK} {us : List Value} {vs : List V} (F : FnG X.prog X.w X.K X.mg X.base CX k f fd ps sp) (gd : X.A.guards = some []) (room : Room k X.A) (bnd : Binds X.K fd ps ds) (dfl : Vals dvs ds) (pas : Passes CX X E)
    (I : Inv X pins σ H s) (rel : Vals vs us) (h : sp (vs ++ dvs) H Q E) : wpAny (model X.prog X.w) X.A (call (.ref f) us) (EP X pins σ Q) X.xe s := by
  have rel2 : Vals (vs ++ dvs) (us ++ ds) := rel.append dfl
  have hl : (us ++ ds).length = ps.length := by
    rw [← rel2.length]
    exact F.len _ _ _ _ h
  refine wpAny_call (codeAny_mono (F.run X.A X.stack s H ⟨us, []⟩ (us ++ ds) (vs ++ dvs) Q E gd room I.env0 (bnd s us I.kIn hl) rel2 h) fun res s' got => ?_)
  rcases res with err | flow
  · exact pas pins σ H s err s' I got
  · cases flow with
    | ret u => exact I.after got
    | next => exact got.elim
    | brk => exact got.elim
    | cont => exact got.elim
/-- f(e, ..), f such a def -/
theorem pe_callG (F : FnG X.prog X.w X.K X.mg X.base CX k f fd ps sp) (gd : X.A.guards = some []) (room : Room k X.A) (hg : Gl X x) (hm : X.mg x = some (.ref f)) (keep : PySem.W.keepIn X.K (.ref f) = true) (bnd : Binds X.K fd ps ds) (dfl : Vals dvs ds) (pas : Passes CX X E)
    (args : PA X (e :: es) t) (ndb : (x == ("__debug__" : Str)) = false := by decide) (se : starEach (e :: es) X.env = (false, eval e X.env) :: starEach es X.env := by rfl) (sn : (backTo pos (starEach es X.env)).any (·.1) = false := by rfl) :
    PE X (.Call (.Name x p) (e :: es) [] pos) (tCall sp dvs E t) := ⟨fun pins s σ H Q I h => by
  refine wpAny_Call_Name_kw (ld_glob I hg hm ?_ ndb)
  exact PySem.W.callWith_K (h₀ := X.base) I.ok.mod.kin keep (thn (args.run pos pins s σ H _ I h) fun us s1 ⟨vs, H1, I1, rel, q⟩ => ⟨I1.kIn, run_g F gd room bnd dfl pas I1 rel q⟩) se sn⟩
end
/-! ### the law's end -/
section
variable {P : Program} {w : World} {K : PySem.W.Frag} {mg mb : Str → Option Value} {k : Nat} {fa a : Addr} {fd : FuncData} {x : Str} {sp : Sp} {s₁ : Shared} {vs : List Value} {ns : List Int}
/-- the abstract heap in which the script alone is tracked (unless it is the module's own) -/
def scriptH (K : PySem.W.Frag) (a : Addr) (vs : List Value) (ns : List Int) : Hp := fun b =>
  if b = a ∧ K.lookup a = none then some (.frz { cls := .type "list", data := .seq vs.toArray } (.lst (ns.map V.int))) else none
theorem scriptH_cases (b : Addr) : scriptH K a vs ns b = none ∨ (b = a ∧ K.lookup a = none ∧ scriptH K a vs ns b = some (.frz { cls := .type "list", data := .seq vs.toArray } (.lst (ns.map V.int)))) := by
  by_cases h : b = a ∧ K.lookup a = none
  · exact Or.inr ⟨h.1, h.2, if_pos h⟩
  · exact Or.inl (if_neg h)
theorem lawG (KX : K.In s₁.heap) (hns : s₁.heap.Ns mainGlobals mg) (hb : s₁.heap.Ns builtinsNs mb) (hbb : ∀ x : Str, x ≠ "__name__" → mb x = bootBuiltins x) (hlim : s₁.heap.NoLimit) (hg : s₁.gens = #[])
    (ha : s₁.heap.get? a = some { cls := .type "list", data := .seq vs.toArray }) (hi : IntsAre vs ns) (hl : ns.length ≤ sizeLine) (room : Room k callerA)
    (F : ∀ base : Heap, K.In base → base.Ns mainGlobals mg → FnG P w K mg base CX0 k fa fd [x] sp) (bnd : ∀ (s : Shared) (u : Value), BindsTo s fd ⟨[u], []⟩ [(x, u)])
    (hsp : ∀ H : Hp, SqL K H a (ns.map V.int) → sp [.ref a] H (fun v _ => v = .bl true) fun _ _ _ => False) :
    codeAny (model P w) callerA (.call (.ref fa) ⟨[.ref a], []⟩) (fun r s' => r = .ok (.ret (.bool true)) ∧ OldK s₁.heap s'.heap ∧ s'.os = s₁.os ∧ AllBare s'.gens) s₁ := by
  have rv : Vals (ns.map V.int) vs := vals_ints hi
  -- the base: all objects but the script
  have low : ∀ {b : Addr} {o : Obj}, s₁.heap.get? b = some o → (b = a → ∃ q, K.lookup a = some q) → (hidT s₁.heap (scriptH K a vs ns)).get? b = some o := fun {b o} e ne => hidT_get e (by
    rcases scriptH_cases (K := K) (a := a) (vs := vs) (ns := ns) b with z | ⟨z1, z2, _⟩
    · exact z
    · obtain ⟨q, hq⟩ := ne z1
      rw [z2] at hq
      cases hq)
  have names : ∀ {b : Addr} {m : Str → Option Value}, s₁.heap.Ns b m → (hidT s₁.heap (scriptH K a vs ns)).Ns b m := fun {b m} ⟨o, es, ep, e, d, rest⟩ => ⟨o, es, ep, low e (fun z => by
    rw [z, ha] at e
    cases e
    cases d), d, rest⟩
  have kin : K.In (hidT s₁.heap (scriptH K a vs ns)) := fun b o e => low (KX b o e) (fun z => ⟨o, by rw [← z]; exact e⟩)
  have modl : Mod K mg (hidT s₁.heap (scriptH K a vs ns)) := ⟨kin, names hns, ⟨mb, names hb, hbb⟩, by
    obtain ⟨mc, h1, h2⟩ := hlim
    exact ⟨mc, names h1, h2⟩⟩
  have hok : HOk P w (scriptH K a vs ns) s₁.heap := fun b u e => by
    rcases scriptH_cases (K := K) (a := a) (vs := vs) (ns := ns) b with z | ⟨z1, _, z2⟩
    · rw [z] at e
      cases e
    · rw [z2] at e
      cases e
      subst z1
      exact ⟨ha, by rw [List.length_map]; exact hl, vs, _, rv, ha⟩
  have hS : SqL K (scriptH K a vs ns) a (ns.map V.int) := by
    cases hk : K.lookup a with
    | none => exact Or.inl (Or.inr ⟨_, if_pos ⟨rfl, hk⟩⟩)
    | some o =>
      have e := KX a o hk
      rw [ha] at e
      cases e
      exact Or.inr ⟨_, vs.toArray, _, hk, rfl, rfl, rfl, by rw [List.size_toArray, hi.length]; exact hl, by simpa using rv⟩
  have env0 : Env0 P w K mg (hidT s₁.heap (scriptH K a vs ns)) callerA [] s₁ (scriptH K a vs ns) :=
    ⟨rfl, modl, fun b o e => of_hidT e, Nat.le_of_eq (hidT_size _ _), trivial, fun b z => (nomatch z), hok, .of_eq hg⟩
  refine codeAny_mono ((F _ kin (names hns)).run callerA [] s₁ (scriptH K a vs ns) ⟨[.ref a], []⟩ [.ref a] [.ref a] _ _ rfl room env0 (bnd s₁ (.ref a)) (.cons rfl .nil) (hsp _ hS)) fun res s' got => ?_
  rcases res with err | flow
  · exact got.elim
  · cases flow with
    | next => exact got.elim
    | brk => exact got.elim
    | cont => exact got.elim
    | ret u =>
      obtain ⟨v, H', os, bare, un, hok', rel, rfl⟩ := got
      obtain rfl : u = Value.bool true := rel
      refine ⟨rfl, OldK.of_keep fun b o e => ?_, os, bare⟩
      rcases scriptH_cases (K := K) (a := a) (vs := vs) (ns := ns) b with z | ⟨_, _, z⟩
      · exact un.keep b o e z (fun y => nomatch y) (fun y => nomatch y)
      · obtain ⟨e1, _⟩ := hok b _ z
        obtain ⟨e2, _⟩ := hok' b _ (un.frzs b _ _ z)
        rw [e] at e1
        cases e1
        exact e2
end
theorem walkG {l : PySem.W.OpenLaw} {n k : Nat} {q : Program} {loose : List Str} {XP : (Str → Option Value) → Heap → Prop} {YP : World → Heap → Prop} {d : DefRec} {x : Str}
    (hn : l.most = some n) (hn2 : n ≤ sizeLine) (hdf : d.params.defaults = []) (room : Room k callerA)
    (F : ∀ (w : World) (mg : Str → Option Value) (fa : Addr) (h : Heap), YP w h → h.Ns mainGlobals mg → mg d.name = some (.ref fa) →
      ∃ (K : PySem.W.Frag) (fd : FuncData) (sp : Sp), K.In h ∧ (∀ (s : Shared) (u : Value), BindsTo s fd ⟨[u], []⟩ [(x, u)]) ∧
        (∀ (H : Hp) (a : Addr) (ns : List Int), ns.length ≤ n → SqL K H a (ns.map V.int) → sp [.ref a] H (fun v _ => v = .bl true) fun _ _ _ => False) ∧
        ∀ base : Heap, K.In base → base.Ns mainGlobals mg → FnG l.prog w K mg base CX0 k fa fd [x] sp) :
    PySem.W.WalkO q loose XP YP l.row.toRowW d [] (fun f vs => PySem.call f vs) :=
  Att.attach_call hn hdf fun w s₀ s₁ mg mb fa o pm cd doc a vs ns G Y _ _ _ hmg hobj hints hlen hg => by
    obtain ⟨K, fd, sp, KX, bnd, hsp, hF⟩ := F w mg fa _ Y G.T.g hmg
    exact lawG KX G.T.g G.T.b G.T.builtins G.T.nolimit hg hobj hints (Nat.le_trans hlen hn2) room hF bnd fun H hS => hsp H a ns hlen hS
end Tx

set_option maxHeartbeats 4000000
/-! repr of data: None, truths, ints, texts, lists, tuples, dicts with int and text keys. -/
namespace Tx
open PySem PySem.Spec PyProof.Rows L2
/-- a key as data -/
def keyD : L2.Key → PyData
  | .inl i => .int i
  | .inr x => .str x
mutual
/-- a value that is data (dicts too) -/
inductive Dr (K : PySem.W.Frag) (H : Hp) : V → PyData → Prop
  | non : Dr K H .non .none
  | bl (b : Bool) : Dr K H (.bl b) (.bool b)
  | int (i : Int) : Dr K H (.int i) (.int i)
  | str (x : Str) : Dr K H (.str x) (.str x)
  | lst {a : Addr} {xs : List V} {ds : List PyData} : SqL K H a xs → DrAll K H xs ds → Dr K H (.ref a) (.list ds)
  | tup {a : Addr} {xs : List V} {ds : List PyData} : SqT K H a xs → DrAll K H xs ds → Dr K H (.ref a) (.tuple ds)
  | dic {a : Addr} {kvs : List (L2.Key × V)} {ds : List (PyData × PyData)} : H a = some (.dK kvs) → DrKv K H kvs ds → Dr K H (.ref a) (.dict ds)
inductive DrAll (K : PySem.W.Frag) (H : Hp) : List V → List PyData → Prop
  | nil : DrAll K H [] []
  | cons {v : V} {vs : List V} {d : PyData} {ds : List PyData} : Dr K H v d → DrAll K H vs ds → DrAll K H (v :: vs) (d :: ds)
inductive DrKv (K : PySem.W.Frag) (H : Hp) : List (L2.Key × V) → List (PyData × PyData) → Prop
  | nil : DrKv K H [] []
  | cons {k : L2.Key} {v : V} {kvs : List (L2.Key × V)} {d : PyData} {ds : List (PyData × PyData)} : Dr K H v d → DrKv K H kvs ds → DrKv K H ((k, v) :: kvs) ((keyD k, d) :: ds)
end
/-- the table of the modules is one of the written things -/
def SysIn (K : PySem.W.Frag) : Prop := ∃ o, K.lookup sysModules = some o ∧ o.cls = .type "dict"
theorem key_reads {h : Heap} {k : L2.Key} {v : Value} (e : keyIs k v = true) : Reads h v (keyD k) [] := by
  rcases keyIs_shape e with ⟨i, t, rfl, rfl⟩ | ⟨y, t, rfl, rfl⟩
  · exact Reads.int i t
  · exact Reads.str y t
section
variable {X : Cx} {pins : List (Addr × Obj)} {σ : L2.St} {H : Hp} {s : Shared}
theorem sys_ne (I : Inv X pins σ H s) (hS : SysIn X.K) {a : Addr} {o : Obj} (ho : s.heap.get? a = some o) (hc : o.cls ≠ .type "dict") : a ≠ sysModules := fun e => by
  obtain ⟨q, lk, cls⟩ := hS
  have z := I.kIn _ _ lk
  rw [← e, ho] at z
  cases z
  exact hc cls
mutual
theorem Dr.reads (I : Inv X pins σ H s) (hS : SysIn X.K) : ∀ (d : PyData) (v : V) (u : Value), Dr X.K H v d → RelV v u → ∃ as, Reads s.heap u d as ∧ sysModules ∉ as
  | .none, _, _, h, r => by
    cases h
    cases r
    exact ⟨_, Reads.none, by simp⟩
  | .bool b, _, _, h, r => by
    cases h
    cases r
    exact ⟨_, Reads.bool b, by simp⟩
  | .int i, _, _, h, r => by
    cases h
    obtain ⟨t, rfl⟩ := r
    exact ⟨_, Reads.int i t, by simp⟩
  | .str x, _, _, h, r => by
    cases h
    obtain ⟨t, rfl⟩ := r
    exact ⟨_, Reads.str x t, by simp⟩
  | .list ds, _, _, h, r => by
    cases h with
    | lst hs ha =>
      cases r
      obtain ⟨its, rv, ⟨o, n, ho, hc, _, hd⟩, _⟩ := I.list hs
      obtain ⟨as, hr, hn⟩ := Dr.readsAll I hS ds _ its ha rv
      have ne := sys_ne I hS ho (by rw [hc]; decide)
      exact ⟨_, Reads.list ho hc hd hr, fun z => by
        rcases List.mem_cons.mp z with z | z
        · exact ne z.symm
        · exact hn z⟩
  | .tuple ds, _, _, h, r => by
    cases h with
    | tup hs ha =>
      cases r
      obtain ⟨its, rv, ⟨o, ho, hc, n, hd⟩, _⟩ := I.tuple hs
      obtain ⟨as, hr, hn⟩ := Dr.readsAll I hS ds _ its ha rv
      exact ⟨_, Reads.tuple ho hc hd hr, hn⟩
  | .dict ds, _, _, h, r => by
    cases h with
    | dic hk hv =>
      cases r
      obtain ⟨_, sm, vs, kv, o, es, ep, ho, hx, hd, _, pr, _⟩ := I.hok _ _ hk
      obtain ⟨as, bs, r1, r2, n1, n2⟩ := Dr.readsKv I hS ds _ vs es.toList hv kv pr
      exact ⟨_, Reads.dict ho hx.1 hd r1 r2, fun z => by
        rcases List.mem_append.mp z with z | z
        · rcases List.mem_cons.mp z with z | z
          · rw [z] at sm
            simp at sm
          · exact n1 z
        · exact n2 z⟩
theorem Dr.readsAll (I : Inv X pins σ H s) (hS : SysIn X.K) : ∀ (ds : List PyData) (vs : List V) (us : List Value), DrAll X.K H vs ds → Vals vs us → ∃ as, ReadsAll s.heap us ds as ∧ sysModules ∉ as
  | [], _, _, h, r => by
    cases h
    cases r
    exact ⟨_, ReadsAll.nil, by simp⟩
  | d :: ds, _, _, h, r => by
    cases h with
    | cons h1 h2 =>
      cases r with
      | cons r1 r2 =>
        obtain ⟨as, q1, n1⟩ := Dr.reads I hS d _ _ h1 r1
        obtain ⟨bs, q2, n2⟩ := Dr.readsAll I hS ds _ _ h2 r2
        exact ⟨_, ReadsAll.cons q1 q2, fun z => (List.mem_append.mp z).elim n1 n2⟩
theorem Dr.readsKv (I : Inv X pins σ H s) (hS : SysIn X.K) : ∀ (ds : List (PyData × PyData)) (kvs : List (L2.Key × V)) (vs : List (L2.Key × Value)) (es : List DictEntry), DrKv X.K H kvs ds → KV kvs vs → Pairs (mixKind X.prog X.w) es vs →
    ∃ as bs, ReadsAll s.heap (es.map (·.key)) (ds.map (·.1)) as ∧ ReadsAll s.heap (es.map (·.val)) (ds.map (·.2)) bs ∧ sysModules ∉ as ∧ sysModules ∉ bs
  | [], _, _, _, h, r, p => by
    cases h
    cases r
    cases p
    exact ⟨_, _, ReadsAll.nil, ReadsAll.nil, by simp, by simp⟩
  | d :: ds, _, _, _, h, r, p => by
    cases h with
    | cons h1 h2 =>
      cases r with
      | cons r1 r2 =>
        obtain ⟨ek, rv⟩ := r1
        cases p with
        | cons p1 pv p2 =>
          obtain ⟨as, bs, q1, q2, n1, n2⟩ := Dr.readsKv I hS ds _ _ _ h2 r2 p2
          obtain ⟨cs, q3, n3⟩ := Dr.reads I hS _ _ _ h1 rv
          have k1 : Reads s.heap _ (keyD _) [] := key_reads (h := s.heap) p1
          rw [← pv] at q3
          rw [← ek] at k1
          exact ⟨_, _, ReadsAll.cons k1 q1, ReadsAll.cons q3 q2, n1, fun z => (List.mem_append.mp z).elim n3 n2⟩
end
end
/-- what repr(v) asks -/
def rRepr (K : PySem.W.Frag) : List V → Hp → VK → Prop := fun vs H Q => ∃ (v : V) (d : PyData), vs = [v] ∧ Dr K H v d ∧ d.showable = true ∧ d.depth ≤ 60 ∧ d.shown.length ≤ sizeLine ∧ Q (.str d.shown) H
section
variable {X : Cx}
theorem call_reprD (gd : X.A.guards = some []) (hu : X.A.units + 64 < cLine) (hS : SysIn X.K) : CallR X (.builtin "repr") (rRepr X.K) := by
  intro pins s σ H vs us Q I r h
  obtain ⟨v, d, rfl, hd, sh, dep, sz, q⟩ := h
  obtain ⟨u, rfl, ru⟩ := Vals.one r
  obtain ⟨as, rd, nm⟩ := Dr.reads I hS d v u hd ru
  cases hd with
  | non =>
    cases ru
    exact PySem.P.repr_of_none ⟨.str "None", H, I.tok _, ⟨_, rfl⟩, q⟩
  | bl b =>
    cases ru
    exact PySem.P.repr_of_bool ⟨.str (if b then "True" else "False"), H, I.tok _, ⟨_, rfl⟩, q⟩
  | int i =>
    obtain ⟨t, rfl⟩ := ru
    exact PySem.P.repr_of_int (of_decide_eq_true sh) ⟨.str (toString i), H, I.tok _, ⟨_, rfl⟩, q⟩
  | str x =>
    obtain ⟨t, rfl⟩ := ru
    exact PySem.P.repr_of_str ⟨.str (reprText x), H, I.tok _, ⟨_, rfl⟩, q⟩ sz
  | lst hs ha =>
    cases ru
    exact repr_of_reads' rd sh (fun _ => nm) gd (by omega) (fun _ _ e => e) (fun h' u tk hk => ⟨.str _, H, I.kept hk, ⟨_, rfl⟩, q⟩) sz
  | tup hs ha =>
    cases ru
    exact repr_of_reads' rd sh (fun _ => nm) gd (by omega) (fun _ _ e => e) (fun h' u tk hk => ⟨.str _, H, I.kept hk, ⟨_, rfl⟩, q⟩) sz
  | dic hs ha =>
    cases ru
    exact repr_of_reads' rd sh (fun _ => nm) gd (by omega) (fun _ _ e => e) (fun h' u tk hk => ⟨.str _, H, I.kept hk, ⟨_, rfl⟩, q⟩) sz
end
end Tx

set_option maxHeartbeats 4000000
/-! Own errors as values: made by position and by keywords, their fields read, isinstance. -/
namespace PySem
namespace TxX
open PySem.W PySem.Calls PyProof.Rows PySem.HandSPX Builtin Builtin.ObjectAttr
section
variable {prog : Program} {w : World} {A : Around} {E : Value → Shared → Prop} {R : Result → Shared → Prop} {h : Heap} {g : Array GenState} {d : Drawn} {t : Nat} {os : OsState}
variable {nm q : Str} {C N : Addr} {bs bm bmB : List Value} {hdct : Bool} {sn : List Str} {sub : List Value} {ab : Bool} {col : Option Bool} {dd : Option Addr} {k0 k1 k2 k3 k5 : Option Value} {B newId initId : String}
/-- the check ahead of the maker, with keywords -/
theorem checkK {M : Model} (F : ExcBaseFacts B newId initId bmB) (same : ∀ X : String, bm.contains (.type X) = bmB.contains (.type X)) {rest : List Value} {kw : List (Str × Value)} {Q : Unit → Shared → Prop}
    (hC : h.get? C = some (excClassObj nm q C N bs bm hdct sn sub ab col dd k0 k1 k2 k3 k5 newId)) (fin : Q () ⟨h, g, d, t, os⟩) : wpAny M A (checkBuiltinCall newId ⟨.ref C :: rest, kw⟩) Q E ⟨h, g, d, t, os⟩ := by
  have isB : (Value.ref C :: bm).contains (.type B) = true := by
    rw [List.contains_cons, same, F.hasB]
    exact Bool.or_true _
  have star := F.noStar
  simp only [checkBuiltinCall, F.newKind, F.newSplit, F.newRow]
  repeat (first
    | refine wpAny_loadPart_at hC ?_
    | (refine wpAny_isSubtype_exc hC ?_; rw [isB])
    | refine wpAny_staticBase_exc hC ?_
    | refine wpAny_madeBy_exc hC ?_
    | simp only [bne_self_eq_false, Bool.false_eq_true, if_false]
    | wp_step)
  exact fin
/-- the maker, with keywords -/
theorem newK (F : ExcBaseFacts B newId initId bmB) (same : ∀ X : String, bm.contains (.type X) = bmB.contains (.type X)) {rest : List Value} {kw : List (Str × Value)}
    (hC : h.get? C = some (excClassObj nm q C N bs bm hdct sn sub ab col dd k0 k1 k2 k3 k5 newId)) (short : rest.length ≤ sizeLine)
    (fin : R (.ok (.ret (.ref (h.objs.size + 1)))) ⟨(h.push (kdv_tup rest)).push (excO C h.objs.size), g, d, t, os⟩) :
    codeAny (model prog w) A (.builtin newId ⟨.ref C :: rest, kw⟩) R ⟨h, g, d, t, os⟩ := by
  have e0 := F.ends
  have isB : (Value.ref C :: bm).contains (.type B) = true := by
    rw [List.contains_cons, same, F.hasB]
    exact Bool.or_true _
  have isA : (Value.ref C :: bm).contains (.type "AttributeError") = false := by
    rw [List.contains_cons, same, F.noAttr]
    rfl
  have isN : (Value.ref C :: bm).contains (.type "NameError") = false := by
    rw [List.contains_cons, same, F.noName]
    rfl
  refine codeAny_builtinAt F.entry ?_
  unfold Builtin.«BaseException.__new__»
  refine wpAt_bind ?_
  show wpAt _ _ _ (stack >>= _) _ _ _
  refine wpAt_bind (wpAt_stack fun p below => wpAt_of_wpAny ?_)
  wp_walk
  refine wpAt_of_wpAny ?_
  rw [F.owner]
  repeat (first
    | with_reducible refine wpAny_madeHere_exc F.canon hC ?_
    | with_reducible refine wpAny_loadPart_at hC ?_
    | (with_reducible refine wpAny_isSubtype_exc hC ?_
       first | rw [isB] | rw [isA] | rw [isN])
    | wp_step)
  show R _ _
  rw [Heap.size_push]
  exact fin
/-- C(.., k = v): the maker, then the own __init__ -/
theorem typeCallK (F : ExcBaseFacts B newId initId bmB) (same : ∀ X : String, bm.contains (.type X) = bmB.contains (.type X)) {rest : List Value} {kw : List (Str × Value)} {fI : Addr} {Q : Fin → Shared → Prop}
    (hC : h.get? C = some (excClassObj nm q C N bs bm hdct sn sub ab col dd k0 k1 k2 k3 k5 newId))
    (hi : Looks (model prog w) h (typeLookup (.ref C) "__init__") (some (.ref fI))) (hb : ∀ self, Looks (model prog w) h (bindSpecial (.ref fI) self) (.ref fI, [self])) (short : rest.length ≤ sizeLine)
    (fin : codeAny (model prog w) A (.call (.ref fI) ⟨.ref (h.objs.size + 1) :: rest, kw⟩)
      (fun r s' => match r with | .ok (.ret v) => v = .none ∧ Q (.done (.ret (.ref (h.objs.size + 1)))) s' | .ok _ => False | .error e => E e s')
      ⟨(h.push (kdv_tup rest)).push (excO C h.objs.size), g, d, t, os⟩) :
    wpAny (model prog w) A (Builtin.«type.__call__» ⟨.ref C :: rest, kw⟩) Q E ⟨h, g, d, t, os⟩ := by
  repeat (first
    | with_reducible refine wpAny_loadPart_at hC ?_
    | with_reducible refine wpAny_madeBy_exc hC ?_
    | wp_step)
  refine codeAny_call_builtin_code (Code.quiet_builtin _ F.quiet) (checkK F same hC ?_)
  refine newK F same hC short ?_
  show wpAny _ _ _ _ _ _
  have old : ∀ b o, h.get? b = some o → ((h.push (kdv_tup rest)).push (excO C h.objs.size)).get? b = some o := fun b o e => by
    exact Heap.get?_push_of_some _ (Heap.get?_push_of_some _ e)
  have atC := old _ _ hC
  have atE : ((h.push (kdv_tup rest)).push (excO C h.objs.size)).get? (h.objs.size + 1) = some (excO C h.objs.size) := by heap_get
  have selfC : (Value.ref C :: bm).contains (.ref C) = true := by simp
  have look := hi.keeps old
  have bnd := (hb (.ref (h.objs.size + 1))).keeps old
  unfold isInstance
  repeat (first
    | with_reducible refine wpAny_loadPart_at atE ?_
    | (with_reducible refine wpAny_isSubtype_exc atC ?_; rw [selfC])
    | wp_step)
  show wpAny _ _ (typeLookup (.ref C) _) _ _ _
  refine look.at ?_
  refine wpAny_holding (wpAny_bind (bnd.at ?_))
  refine wpAny_bind (wpAny_call (codeAny_mono fin fun r s' z => ?_))
  cases r with
  | error e => exact z
  | ok fl =>
    cases fl with
    | ret v =>
      obtain ⟨rfl, z⟩ := z
      first
        | exact wpAny_pure (wpAny_pure z)
        | (wp_walk; exact z)
    | next => exact z.elim
    | brk => exact z.elim
    | cont => exact z.elim
theorem callK (F : ExcBaseFacts B newId initId bmB) (same : ∀ X : String, bm.contains (.type X) = bmB.contains (.type X)) {rest : List Value} {kw : List (Str × Value)} {fI : Addr}
    (hC : h.get? C = some (excClassObj nm q C N bs bm hdct sn sub ab col dd k0 k1 k2 k3 k5 newId))
    (hi : Looks (model prog w) h (typeLookup (.ref C) "__init__") (some (.ref fI))) (hb : ∀ self, Looks (model prog w) h (bindSpecial (.ref fI) self) (.ref fI, [self])) (short : rest.length ≤ sizeLine)
    (fin : codeAny (model prog w) (A.under (.builtin "type.__call__" ⟨.ref C :: rest, kw⟩)) (.call (.ref fI) ⟨.ref (h.objs.size + 1) :: rest, kw⟩) (InitBack (h.objs.size + 1) R)
      ⟨(h.push (kdv_tup rest)).push (excO C h.objs.size), g, d, t, os⟩) :
    codeAny (model prog w) A (.call (.ref C) ⟨rest, kw⟩) R ⟨h, g, d, t, os⟩ := by
  have f1 := tc_lookup
  have f2 := tc_bind (.ref C)
  have ty : (⟨h, g, d, t, os⟩ : Shared).TypeIs (.ref C) "type" := ⟨_, hC, rfl⟩
  refine codeAny_of_tree ?_
  show wpAny _ _ (callAny (.ref C) _) _ _ _
  repeat (any_goals (first
    | assumption
    | with_reducible refine wpAny_loadPart_at hC ?_
    | wp_step))
  refine ⟨rfl, ?_⟩
  refine codeAny_call_builtin_at (Code.quiet_builtin _ (by decide +kernel)) entry_typeCall (wpAny_check_type_call_sub hC (typeCallK F same hC hi hb short ?_))
  refine codeAny_mono fin fun r s' z => ?_
  rcases r with e | (v | _ | _ | _) <;> exact z
end
end TxX
end PySem

namespace PySem.W
open PySem PySem.Spec PySem.Calls PyProof.Rows
section
variable {prog : Program} {w : World} {A : Around} {E : Value → Shared → Prop} {s : Shared} {K : Frag} {x D : Addr} {ox : Obj} {od : Option Obj}
/-- a data descriptor of the class goes ahead of the own dict -/
theorem findObj_dataS {C : Addr} {name : Str} {a g : Value} (hc : (clsIn K C).isSome = true) (ha : findIn K (.ref C) name = some (some a)) (hg : specialIn K a "__get__" = some (some g)) (ht : takesIn K a = some true) : findObj K C od name = some (.bind g a) := by
  obtain ⟨cd, hc⟩ := Option.isSome_iff_exists.mp hc
  unfold findObj
  rw [hc, Option.bind_some, ha, Option.bind_some]
  simp [hg, ht]
/-- error.__class__ -/
theorem class_of_err {Q : Option Value → Shared → Prop} (T : L2.ExcC K D) (X : K.In s.heap) (I : InstAt s.heap x ox D od) (fin : Q (some (.ref D)) { s with toks := s.toks + 1 }) : wpAny (model prog w) A (getAttr? (.ref x) "__class__") Q E s := by
  have found : findObj K D od "__class__" = some (.bind (.builtin "getset_descriptor.__get__") (.builtin "object.__class__")) := findObj_dataS (by
    obtain ⟨cd, hc, _⟩ := any_some T.hd
    rw [hc]
    rfl) T.ha T.hn T.ht
  obtain ⟨hp, g, d, t, os⟩ := s
  have ty := I.type (M := model prog w)
  have l1 := looks_findIn (M := model prog w) X T.hg
  have l2 := looks_findIn (M := model prog w) X T.hk
  have l3 := looks_find (M := model prog w) X I found
  have isE : Looks (model prog w) hp (isInstance (.ref x) (.type "BaseException")) true := ty.andThen (looks_subIn X T.hs)
  have ne : (Value.builtin "BaseException.__getattribute__" == Value.builtin "object.__getattribute__") = false := by decide +kernel
  have own : (onTheHeap (Value.ref D) && Value.builtin "BaseException.__getattribute__" == Value.builtin "object.__getattribute__") = false := by
    rw [ne]
    rfl
  unfold getAttr? getAttrBy? getAttrBy
  refine wpAny_bind (wpAny_mkText (wpAny_bind (wpAny_attempt (wpAny_holding (wpAny_bind (ty.at (wpAny_bind (l1.at ?_))))))))
  show wpAny _ _ (if (onTheHeap (Value.ref D) && Value.builtin "BaseException.__getattribute__" == Value.builtin "object.__getattribute__") = true then _ else _) _ _ _
  rw [own, if_neg Bool.false_ne_true]
  unfold getAttrByItsOwn hookBefore
  refine wpAny_bind ?_
  rw [if_pos (show onTheHeap (Value.ref D) = true from rfl)]
  refine l2.at (wpAny_bind (wpAny_attempt (wpAny_holding ?_)))
  unfold callGetattribute
  rw [show (false && onTheHeap (Value.builtin "BaseException.__getattribute__")) = false from rfl, if_neg Bool.false_ne_true]
  unfold boundAndCalled
  rw [PySem.F.excAttr_ValueError.ga.bind (.ref x)]
  refine wpAny_bind (wpAny_pure ?_)
  show wpAny _ _ (call (.builtin "BaseException.__getattribute__") [.ref x, .str "__class__" t]) _ _ _
  refine wpAny_call (codeAny_call_builtin PySem.F.excAttr_ValueError.ga.plain PySem.F.entry_bexc_ga ?_)
  refine @check_slot (model prog w) _ _ ⟨hp, g, d, t + 1, os⟩ "BaseException.__getattribute__" "BaseException" "__getattribute__" (.ref x) [.str "__class__" t] [] _ (by decide +kernel) (by decide +kernel) isE (PySem.F.args_bexc_ga (.ref x) (.str "__class__" t)) ?_
  unfold Builtin.«object.__getattribute__»
  refine wpAny_bind (wpAny_of_eq (a := ((Value.ref x : Value), [Value.str "__class__" t])) (by first | rfl | (simp only [slotArgs]; rfl)) ?_)
  refine wpAny_bind (wpAny_pure (wpAny_bind (ty.at (wpAny_bind (l3.at ?_)))))
  show wpAny _ _ (holding [Value.builtin "object.__class__"] (call (.builtin "getset_descriptor.__get__") [.builtin "object.__class__", .ref x, .ref D]) >>= ret) _ _ _
  refine wpAny_bind (wpAny_holding (wpAny_call (class_get (s := ⟨hp, g, d, t + 1, os⟩) (ox := ox) (od := od) X I T.hm ?_)))
  refine wpAny_pure ?_
  show wpAny _ _ (handedOut (.ref D)) _ _ _
  rw [handedOut_of (v := .ref D) rfl]
  first
    | exact wpAny_pure (wpAny_pure fin)
    | exact wpAny_pure fin
    | exact wpAny_pure (wpAny_bind (wpAny_pure (wpAny_pure fin)))
theorem kit_err (T : L2.ExcC K D) : KitX K (.ref x) (.ref D) (fun h => ∃ ox od, InstAt h x ox D od) where
  ty := fun _ _ _ ⟨ox, od, I⟩ => I.type
  it := fun _ _ X _ => by
    obtain ⟨cdD, hcD, _⟩ := any_some T.hd
    unfold clsIn at hcD
    split at hcD
    · rename_i c' d' cd' sl' ho
      intro A' Q' E' s' k q
      unfold isType loadHead
      exact wpAny_bind (wpAny_loadPart (k _ _ (X _ _ ho)) (wpAny_pure q))
    · cases hcD
  ne := fun h tp dd its n sl X htp => by
    obtain ⟨cdD, hcD, _⟩ := any_some T.hd
    refine Bool.eq_false_iff.mpr fun q => ?_
    obtain rfl : D = tp := Value.ref.inj (beq_iff_eq.mp q)
    unfold clsIn at hcD
    split at hcD
    · rename_i c' d' cd' sl' ho
      have z := (X _ _ ho).symm.trans htp
      cases z
    · cases hcD
  ca := fun X ⟨ox, od, I⟩ k => class_of_err T X I k
end
end PySem.W
namespace Tx
open PySem PySem.Spec PyProof.Rows L2

section
variable {X : Cx} {pins : List (Addr × Obj)} {σ : L2.St} {H : Hp} {s : Shared}
theorem err_inst {a C : Addr} {d : Option Addr} {fs : List (Str × V)} (I : Inv X pins σ H s) (he : H a = some (exo a C d)) (hd : ∀ dd, d = some dd → H dd = some (exd dd fs)) :
    ∃ ox od, PySem.W.InstAt s.heap a ox C od := by
  obtain ⟨t1, ho⟩ := exo_at I.hok he
  cases d with
  | none => exact ⟨_, none, ho, rfl, rfl, trivial⟩
  | some dd =>
    obtain ⟨mA, hns, _⟩ := exd_at I.hok (hd dd rfl)
    obtain ⟨o, _, _, ho2, _⟩ := hns
    exact ⟨_, some o, ho, rfl, rfl, ho2⟩
end
/-- the error at a: its class, its fields (none: no dict) -/
def Err (H : Hp) (a C : Addr) (fs : List (Str × V)) : Prop := (H a = some (exo a C none) ∧ fs = []) ∨ ∃ d, H a = some (exo a C (some d)) ∧ H d = some (exd d fs)
/-- isinstance(e, c), e an error -/
def rIsErr (K : PySem.W.Frag) : List V → Hp → VK → Prop := fun xs H Q => ∃ (a C : Addr) (fs : List (Str × V)) (c : V) (cv : Value) (b : Bool), xs = [.ref a, c] ∧ Err H a C fs ∧ ExcC K C ∧ (∀ u, RelV c u → u = cv) ∧ PySem.W.kitOne K (.ref C) cv = some b ∧ Q (.bl b) H
/-- e.f, e an error -/
def tErrF (K : PySem.W.Frag) (te : TE) (f : Str) : TE := fun σ H Q => te σ H fun x H1 => ∃ (a C : Addr) (fs : List (Str × V)) (v : V), x = .ref a ∧ Err H1 a C fs ∧ ExcC K C ∧ PySem.W.findIn K (.ref C) f = some none ∧ fs.lookup f = some v ∧ Q v H1
section
variable {X : Cx}
theorem call_isErr : CallR X (.builtin "isinstance") (rIsErr X.K) := by
  intro pins s σ H xs us Q I r h
  obtain ⟨a, C, fs, c, cv, b, rfl, he, T, hcv, e, q⟩ := h
  obtain ⟨u, v, rfl, ru, rv⟩ := Vals.two r
  cases ru
  obtain rfl := hcv _ rv
  have J : ∃ ox od, PySem.W.InstAt s.heap a ox C od := by
    rcases he with ⟨he, _⟩ | ⟨d, he, hd⟩
    · exact err_inst (fs := []) I he (fun _ z => nomatch z)
    · exact err_inst I he (fun dd z => by cases z; exact hd)
  exact PySem.W.kia_one (PySem.W.kit_err T) I.kIn J e (fun z => nomatch z) fun tk => ⟨.bl b, H, I.kept (t' := tk) fun _ _ z => z, rfl, q⟩
theorem pe_errF {e : Expr} {te : TE} {f : Str} {pos : Pos} (he : PE X e te) (hb : attributeBase e f X.env (eval e X.env) = eval e X.env := by rfl) : PE X (.Attribute e f pos) (tErrF X.K te f) := ⟨fun pins s σ H Q I h => by
  refine attr_of hb (thn (he.run pins s σ H _ I h) fun u s1 ⟨x, H1, I1, rx, a, C, fs, v, ex, er, T, hn, l, q⟩ => ?_)
  subst ex
  cases rx
  rcases er with ⟨_, ef⟩ | ⟨d, ha, hd⟩
  · subst ef
    cases l
  · obtain ⟨t1, ho⟩ := exo_at I1.hok ha
    obtain ⟨mA, hns, rel⟩ := exd_at I1.hok hd
    obtain ⟨od, ho2, look⟩ := lookIn_ns hns
    obtain ⟨u, hu, ru⟩ := RelO.some_of (v := v) (o := mA f) (by rw [← l]; exact rel f)
    exact HandSPX.exc_get I1.kIn ⟨ho, rfl, rfl, ho2⟩ T.hg T.hk T.hs (PySem.W.findObj_own T.hd hn rfl (by rw [look, hu])) (handed_of ru) ⟨v, H1, I1.tok _, ru, q⟩⟩
end
end Tx

set_option maxHeartbeats 4000000
/-! Own errors made as values. -/
namespace Tx
open PySem PySem.Spec PyProof.Rows L2
/-- C(e, ..): a new error, then its own __init__ -/
def tMkV (C : Addr) (sp : Sp) (ta : TA) : TE := fun σ H Q => ta σ H fun vs H1 => vs.length ≤ 1000 ∧ ∀ a, H1 a = none → sp (.ref a :: vs) (upd H1 a (exo a C none)) (fun v H2 => v = .non ∧ Q (.ref a) H2) (fun _ _ _ => False)
/-- C(k = v, ..) -/
def tMkVK (C : Addr) (sp : Sp) (m : Nat) (gV : List V → List V → List V) (tk : TA) : TE := fun σ H Q => tk σ H fun zs H1 => zs.length = m ∧ ∀ a, H1 a = none → sp (gV [.ref a] zs) (upd H1 a (exo a C none)) (fun v H2 => v = .non ∧ Q (.ref a) H2) (fun _ _ _ => False)
/-- C(), C without an own __init__ -/
def tMkV0 (C : Addr) : TE := fun _ H Q => ∀ a, H a = none → Q (.ref a) (upd H a (exo a C none))
section
variable {X : Cx} {k : Nat} {fI C : Addr} {fd : FuncData} {ps ks : List Str} {sp : Sp} {x : Str} {p pos : Pos} {e : Expr} {es : List Expr} {kws : List Keyword} {ta tk : TA} {g : List Value → List Value → List Value} {gV : List V → List V → List V}
theorem run_mkV {pins : List (Addr × Obj)} {σ : L2.St} {H : Hp} {s : Shared} {Q : VK} {us : List Value} {kw : List (Str × Value)} (T : OexC X.K C) (iC : PySem.W.findIn X.K (.ref C) "__init__" = some (some (.ref fI))) (tI : PySem.W.typeIn X.K (.ref fI) = some (.type "function"))
    (F : FnOk X.prog X.w X.K X.mg X.base CX0 k fI fd ps sp) (room : Room (k + 1) X.A) (I : Inv X pins σ H s) (short : us.length ≤ sizeLine)
    (h : ∀ a, H a = none → ∃ (vs : List V) (bus : List Value), Vals vs bus ∧ (∀ s2 : Shared, X.K.In s2.heap → BindsTo s2 fd ⟨.ref a :: us, kw⟩ (ps.zip bus)) ∧ sp vs (upd H a (exo a C none)) (fun v H2 => v = .non ∧ Q (.ref a) H2) (fun _ _ _ => False)) :
    wpAny (model X.prog X.w) X.A (call (.ref C) us kw) (EP X pins σ Q) X.xe s := by
  obtain ⟨nm, q, N, bs, bm, sn, sub, ab, col, dd, k0, k1, k2, k3, k5, hC, hbm⟩ := T.cls
  obtain ⟨hp, gs, dr, tk, os⟩ := s
  have up : hp.objs.size ≤ hp.objs.size + 1 := Nat.le_succ _
  obtain ⟨vs, bus, rel, bnd, hq⟩ := h (hp.objs.size + 1) (I.hok.fresh up)
  have old : ∀ b o, hp.get? b = some o → ((hp.push (PySem.W.kdv_tup us)).push (PySem.HandSPX.excO C hp.objs.size)).get? b = some o := fun b o z => Heap.get?_push_of_some _ (Heap.get?_push_of_some _ z)
  have new : ((hp.push (PySem.W.kdv_tup us)).push (PySem.HandSPX.excO C hp.objs.size)).get? (hp.objs.size + 1) = some (PySem.HandSPX.excO C hp.objs.size) := by heap_get
  have J : Inv X pins σ (upd H (hp.objs.size + 1) (exo (hp.objs.size + 1) C none)) ⟨(hp.push (PySem.W.kdv_tup us)).push (PySem.HandSPX.excO C hp.objs.size), gs, dr, tk, os⟩ :=
    I.laid (t' := tk) (o := exo (hp.objs.size + 1) C none) old up (exo_ok new)
  refine wpAny_call (PySem.TxX.callK PySem.F.excBase_ValueError (fun Y => PySem.HandSPX.refsVE_contains Y bm hbm) (I.kIn _ _ hC) (PySem.W.looks_findIn I.kIn iC) (fun self => PySem.W.bind_fn I.kIn self tI) short
    (codeAny_mono (F.run _ X.stack _ _ _ bus vs _ _ (room.make C us kw) (J.env0.make C us kw) (bnd _ J.kIn) rel hq) fun r s' got => ?_))
  cases r with
  | error er => exact got.elim
  | ok fl =>
    cases fl with
    | ret u =>
      obtain ⟨v, H2, J2, rv, ev, q2⟩ := J.after got
      subst ev
      exact ⟨rv, ⟨V.ref (hp.objs.size + 1), H2, J2, rfl, q2⟩⟩
    | next => exact got.elim
    | brk => exact got.elim
    | cont => exact got.elim
theorem pe_mkV (T : OexC X.K C) (iC : PySem.W.findIn X.K (.ref C) "__init__" = some (some (.ref fI))) (tI : PySem.W.typeIn X.K (.ref fI) = some (.type "function")) (F : FnOk X.prog X.w X.K X.mg X.base CX0 k fI fd ps sp) (room : Room (k + 1) X.A)
    (bnd : Binds X.K fd ps []) (hg : Gl X x) (hm : X.mg x = some (.ref C)) (args : PA X (e :: es) ta) (ndb : (x == ("__debug__" : Str)) = false := by decide)
    (se : starEach (e :: es) X.env = (false, eval e X.env) :: starEach es X.env := by rfl) (sn : (backTo pos (starEach es X.env)).any (·.1) = false := by rfl) : PE X (.Call (.Name x p) (e :: es) [] pos) (tMkV C sp ta) := ⟨fun pins s σ H Q I h => by
  refine wpAny_Call_Name_kw (ld_glob I hg hm ?_ ndb)
  refine PySem.W.callWith_K (h₀ := X.base) I.ok.mod.kin T.kC (thn (args.run pos pins s σ H _ I h) fun us s1 ⟨vs, H1, I1, rel, short, q⟩ => ⟨I1.kIn, ?_⟩) se sn
  refine run_mkV (us := us) (kw := []) T iC tI F room I1 (by rw [← Paired.length rel, sizeLine_eq]; omega) fun a na => ?_
  refine ⟨.ref a :: vs, .ref a :: us, .cons rfl rel, fun s2 X2 => ?_, q a na⟩
  have l : (Value.ref a :: us ++ []).length = ps.length := by
    have e1 := F.len _ _ _ _ (q a na)
    rw [List.append_nil, ← e1]
    exact congrArg Nat.succ (Paired.length rel).symm
  have b := bnd s2 (Value.ref a :: us) X2 l
  rw [List.append_nil] at b
  exact b⟩
theorem pe_mkVK (T : OexC X.K C) (iC : PySem.W.findIn X.K (.ref C) "__init__" = some (some (.ref fI))) (tI : PySem.W.typeIn X.K (.ref fI) = some (.type "function")) (F : FnOk X.prog X.w X.K X.mg X.base CX0 k fI fd ps sp) (room : Room (k + 1) X.A)
    (bnd : KBn X.K fd ps 1 ks g gV) (hg : Gl X x) (hm : X.mg x = some (.ref C)) (hkw : PK X kws tk) (hall : (backToKw pos (keywordEach kws X.env)).all (·.1.isSome) = true := by rfl) (hks : (backToKw pos (keywordEach kws X.env)).filterMap (·.1) = ks := by rfl)
    (ndb : (x == ("__debug__" : Str)) = false := by decide) (hpl : ((backTo pos (starEach [] X.env)).any (·.1) || (backToKw pos (keywordEach kws X.env)).any (·.1.isNone)) = false := by rfl) : PE X (.Call (.Name x p) [] kws pos) (tMkVK C sp ks.length gV tk) := ⟨fun pins s σ H Q I h => by
  refine wpAny_Call_Name_kw (ld_glob I hg hm ?_ ndb)
  refine PySem.W.callWith_KW0 (h₀ := X.base) I.ok.mod.kin T.kC hall ?_ hpl
  refine thn (hkw.run pos pins s σ H _ I h) fun ws s1 ⟨zs, H1, I1, rel, hz, q⟩ => ⟨I1.kIn, ?_⟩
  rw [hks]
  refine run_mkV (us := []) (kw := ks.zip ws) T iC tI F room I1 (Nat.zero_le _) fun a na => ?_
  exact ⟨gV [.ref a] zs, g [.ref a] ws, bnd.rel (.cons rfl .nil) rel, fun s2 X2 => bnd.to s2 [.ref a] ws X2 rfl (by rw [← Paired.length rel]; exact hz), q a na⟩⟩
theorem pe_mkV0 (q : PySem.W.excIn X.K C He.veBase "ValueError.__new__" = true) (kC : PySem.W.keepIn X.K (.ref C) = true) (hg : Gl X x) (hm : X.mg x = some (.ref C)) (ndb : (x == ("__debug__" : Str)) = false := by decide) : PE X (.Call (.Name x p) [] [] pos) (tMkV0 C) := ⟨fun pins s σ H Q I h => by
  refine wpAny_Call_Name_kw (ld_glob I hg hm ?_ ndb)
  refine PySem.W.callWith_K0 I.kIn kC ?_
  obtain ⟨bm, N, nm, qn, bs, hdct, sn, sub, ab, col, dd, k0, k1, k2, k3, k5, mN, hC, hN, hni, T⟩ := exc_obj I.kIn q
  show wpAny _ _ (call (.ref C) []) _ _ _
  obtain ⟨hp, gs, dr, tk, os⟩ := s
  refine wpAny_call_exc_subT PySem.F.excBase_ValueError T hC hN hni (fun h' a made => ?_) (by show 0 ≤ sizeLine; omega)
  have na : H a = none := I.hok.gone made.new
  obtain ⟨t, ht, _, _⟩ := made.there
  exact ⟨.ref a, upd H a (exo a C none), I.laidN made.keeps made.new na (exo_ok ht), rfl, h a na⟩⟩
end
end Tx

set_option maxHeartbeats 4000000
/-! An own error class with one or two fields: all that is known of it, and its calls. -/
namespace Tx
open PySem PySem.Spec PyProof.Rows L2
open Evl (Ex)
theorem PE.weaken {X : Cx} {e : Expr} {t u : TE} (h : PE X e t) (k : ∀ σ H Q, u σ H Q → t σ H Q) : PE X e u := ⟨fun pins s σ H Q I q => h.run pins s σ H Q I (k σ H Q q)⟩
/-- self.f = v -/
def spI1 (K : PySem.W.Frag) (C : Addr) (f : Str) : Sp := fun vs H Q _ => ∃ (a : Addr) (v : V), vs = [.ref a, v] ∧ H a = some (exo a C none) ∧
  ∀ d, H d = none → d ≠ a → Q .non (upd (upd H d (exd d [(f, v)])) a (exo a C (some d)))
/-- self.f = v; self.g = u -/
def spI2 (K : PySem.W.Frag) (C : Addr) (f g : Str) : Sp := fun vs H Q _ => ∃ (a : Addr) (v u : V), vs = [.ref a, v, u] ∧ H a = some (exo a C none) ∧
  ∀ d, H d = none → d ≠ a → Q .non (upd (upd (upd H d (exd d [(f, v)])) a (exo a C (some d))) d (exd d [(g, u), (f, v)]))
def catV {α : Type} : List α → List α → List α := fun a b => a ++ b
def revV {α : Type} : List α → List α → List α := fun a b => a ++ b.reverse
/-- what is known of a class -/
structure EC (K : PySem.W.Frag) (mg : Str → Option Value) (n : Str) (C : Addr) : Prop where
  g : mg n = some (.ref C)
  ox : OexC K C
  ex : ExcC K C
/-- .. of its __init__ -/
structure EI (P : Program) (w : World) (K : PySem.W.Frag) (mg : Str → Option Value) (base : Heap) (C fI : Addr) (fd : FuncData) (ps : List Str) (sp : Sp) : Prop where
  ini : PySem.W.findIn K (.ref C) "__init__" = some (some (.ref fI))
  tI : PySem.W.typeIn K (.ref fI) = some (.type "function")
  ok : FnOk P w K mg base CX0 1 fI fd ps sp
theorem err1 {H : Hp} {a C d : Addr} {f : Str} {v : V} (na : H a = none) (nd : upd H a (exo a C none) d = none) (ne : d ≠ a) :
    Ex H (upd (upd (upd H a (exo a C none)) d (exd d [(f, v)])) a (exo a C (some d))) ∧ Err (upd (upd (upd H a (exo a C none)) d (exd d [(f, v)])) a (exo a C (some d))) a C [(f, v)] := by
  have nd' : H d = none := by
    rw [upd_ne ne] at nd
    exact nd
  refine ⟨fun b o e => ?_, .inr ⟨d, upd_same, ?_⟩⟩
  · rw [upd_ne (ne_of_none e na), upd_ne (ne_of_none e nd'), upd_ne (ne_of_none e na)]
    exact e
  · rw [upd_ne ne, upd_same]
theorem err2 {H : Hp} {a C d : Addr} {f g : Str} {v u : V} (na : H a = none) (nd : upd H a (exo a C none) d = none) (ne : d ≠ a) :
    Ex H (upd (upd (upd (upd H a (exo a C none)) d (exd d [(f, v)])) a (exo a C (some d))) d (exd d [(g, u), (f, v)])) ∧
      Err (upd (upd (upd (upd H a (exo a C none)) d (exd d [(f, v)])) a (exo a C (some d))) d (exd d [(g, u), (f, v)])) a C [(g, u), (f, v)] := by
  have nd' : H d = none := by
    rw [upd_ne ne] at nd
    exact nd
  refine ⟨fun b o e => ?_, .inr ⟨d, ?_, upd_same⟩⟩
  · rw [upd_ne (ne_of_none e nd')]
    exact (err1 na nd ne).1 b o e
  · rw [upd_ne (Ne.symm ne), upd_same]
section
variable {X : Cx} {n f g : Str} {C fI : Addr} {fd : FuncData} {p pos : Pos} {e e1 e2 : Expr} {te te1 te2 : TE} {kws : List Keyword} {tk : TA}
theorem pe_err1 (E : EC X.K X.mg n C) (J : EI X.prog X.w X.K X.mg X.base C fI fd ["self", f] (spI1 X.K C f)) (bnd : Binds X.K fd ["self", f] []) (room : Room 2 X.A) (hg : Gl X n) (he : PE X e te) (ndb : (n == ("__debug__" : Str)) = false := by decide)
    (se : starEach [e] X.env = (false, eval e X.env) :: starEach [] X.env := by rfl) : PE X (.Call (.Name n p) [e] [] pos) (tMkV C (spI1 X.K C f) (tCons te tNil)) :=
  pe_mkV E.ox J.ini J.tI J.ok room bnd hg E.g (pa_cons he pa_nil se) ndb se (by rfl)
theorem pe_err2 (E : EC X.K X.mg n C) (J : EI X.prog X.w X.K X.mg X.base C fI fd ["self", f, g] (spI2 X.K C f g)) (bnd : Binds X.K fd ["self", f, g] []) (room : Room 2 X.A) (hg : Gl X n) (h1 : PE X e1 te1) (h2 : PE X e2 te2) (ndb : (n == ("__debug__" : Str)) = false := by decide)
    (se : starEach [e1, e2] X.env = (false, eval e1 X.env) :: starEach [e2] X.env := by rfl) (se2 : starEach [e2] X.env = (false, eval e2 X.env) :: starEach [] X.env := by rfl) (sn : (backTo pos (starEach [e2] X.env)).any (·.1) = false := by rfl) :
    PE X (.Call (.Name n p) [e1, e2] [] pos) (tMkV C (spI2 X.K C f g) (tCons te1 (tCons te2 tNil))) :=
  pe_mkV E.ox J.ini J.tI J.ok room bnd hg E.g (pa_cons h1 (pa_cons h2 pa_nil se2) se) ndb se sn
theorem pe_err1K (E : EC X.K X.mg n C) (J : EI X.prog X.w X.K X.mg X.base C fI fd ["self", f] (spI1 X.K C f)) (bnd : KBn X.K fd ["self", f] 1 [f] catV catV) (room : Room 2 X.A) (hg : Gl X n) (hkw : PK X kws tk)
    (hall : (backToKw pos (keywordEach kws X.env)).all (·.1.isSome) = true := by rfl) (hks : (backToKw pos (keywordEach kws X.env)).filterMap (·.1) = [f] := by rfl)
    (ndb : (n == ("__debug__" : Str)) = false := by decide) (hpl : ((backTo pos (starEach [] X.env)).any (·.1) || (backToKw pos (keywordEach kws X.env)).any (·.1.isNone)) = false := by rfl) :
    PE X (.Call (.Name n p) [] kws pos) (tMkVK C (spI1 X.K C f) 1 catV tk) :=
  pe_mkVK E.ox J.ini J.tI J.ok room bnd hg E.g hkw hall hks ndb hpl
theorem pe_err2K (E : EC X.K X.mg n C) (J : EI X.prog X.w X.K X.mg X.base C fI fd ["self", f, g] (spI2 X.K C f g)) (bnd : KBn X.K fd ["self", f, g] 1 [g, f] revV revV) (room : Room 2 X.A) (hg : Gl X n) (hkw : PK X kws tk)
    (hall : (backToKw pos (keywordEach kws X.env)).all (·.1.isSome) = true := by rfl) (hks : (backToKw pos (keywordEach kws X.env)).filterMap (·.1) = [g, f] := by rfl)
    (ndb : (n == ("__debug__" : Str)) = false := by decide) (hpl : ((backTo pos (starEach [] X.env)).any (·.1) || (backToKw pos (keywordEach kws X.env)).any (·.1.isNone)) = false := by rfl) :
    PE X (.Call (.Name n p) [] kws pos) (tMkVK C (spI2 X.K C f g) 2 revV tk) :=
  pe_mkVK E.ox J.ini J.tI J.ok room bnd hg E.g hkw hall hks ndb hpl
end
/-! ### what they evaluate to -/
/-- a new error of the class at C with the fields fs -/
def EvE (te : TE) (σ : L2.St) (H : Hp) (C : Addr) (fs : List (Str × V)) : Prop := ∀ H1, Ex H H1 → ∀ Q : VK, (∀ a H2, Ex H1 H2 → Err H2 a C fs → Q (.ref a) H2) → te σ H1 Q
theorem Err.mono {H H' : Hp} {a C : Addr} {fs : List (Str × V)} (h : Err H a C fs) (e : Ex H H') : Err H' a C fs := by
  rcases h with ⟨h1, h2⟩ | ⟨d, h1, h2⟩
  · exact .inl ⟨e _ _ h1, h2⟩
  · exact .inr ⟨d, e _ _ h1, e _ _ h2⟩
inductive ErrAll (H : Hp) : List V → List (Addr × List (Str × V)) → Prop
  | nil : ErrAll H [] []
  | cons {a C : Addr} {fs : List (Str × V)} {vs : List V} {cs : List (Addr × List (Str × V))} : Err H a C fs → ErrAll H vs cs → ErrAll H (.ref a :: vs) ((C, fs) :: cs)
theorem ErrAll.mono {H H' : Hp} (e : Ex H H') : ∀ {vs : List V} {cs : List (Addr × List (Str × V))}, ErrAll H vs cs → ErrAll H' vs cs
  | _, _, .nil => .nil
  | _, _, .cons h t => .cons (h.mono e) (t.mono e)
theorem ErrAll.length {H : Hp} : ∀ {vs : List V} {cs : List (Addr × List (Str × V))}, ErrAll H vs cs → vs.length = cs.length
  | _, _, .nil => rfl
  | _, _, .cons _ t => congrArg Nat.succ t.length
theorem ErrAll.append {H : Hp} : ∀ {vs us : List V} {cs ds : List (Addr × List (Str × V))}, ErrAll H vs cs → ErrAll H us ds → ErrAll H (vs ++ us) (cs ++ ds)
  | _, _, _, _, .nil, s => s
  | _, _, _, _, .cons h t, s => .cons h (t.append s)
theorem ErrAll.at {H : Hp} : ∀ {vs : List V} {cs : List (Addr × List (Str × V))} {i : Nat} {C : Addr} {fs : List (Str × V)}, ErrAll H vs cs → cs[i]? = some (C, fs) → ∃ a, vs[i]? = some (.ref a) ∧ Err H a C fs
  | _, _, _, _, _, .nil, e => by simp at e
  | _, _, 0, _, _, .cons h _, e => by
    simp at e
    obtain ⟨rfl, rfl⟩ := e
    exact ⟨_, rfl, h⟩
  | _, _, i + 1, C, fs, .cons _ t, e => by
    obtain ⟨a, e1, e2⟩ := ErrAll.at (i := i) (C := C) (fs := fs) t (by simpa using e)
    exact ⟨a, by simpa using e1, e2⟩
def EvEs (ta : TA) (σ : L2.St) (H : Hp) (cs : List (Addr × List (Str × V))) : Prop := ∀ H1, Ex H H1 → ∀ Q : List V → Hp → Prop, (∀ vs H2, Ex H1 H2 → ErrAll H2 vs cs → Q vs H2) → ta σ H1 Q
section
variable {K : PySem.W.Frag} {σ : L2.St} {H : Hp} {te te1 te2 : TE} {ta : TA} {C : Addr} {f g : Str} {v u : V} {fs : List (Str × V)} {cs : List (Addr × List (Str × V))}
theorem ee_1 (h : Evl.Ev te σ H v) : EvE (tMkV C (spI1 K C f) (tCons te tNil)) σ H C [(f, v)] := fun H1 e Q q =>
  h H1 e _ fun H2 e2 => ⟨(by show 1 ≤ 1000; decide), fun a na => ⟨a, v, rfl, upd_same, fun d nd ne => ⟨rfl, q a _ (e2.trans (err1 na nd ne).1) (err1 na nd ne).2⟩⟩⟩
theorem ee_2 (h : Evl.Ev te1 σ H v) (h2 : Evl.Ev te2 σ H u) : EvE (tMkV C (spI2 K C f g) (tCons te1 (tCons te2 tNil))) σ H C [(g, u), (f, v)] := fun H1 e Q q =>
  h H1 e _ fun H2 e2 => h2 H2 (e.trans e2) _ fun H3 e3 => ⟨(by show 2 ≤ 1000; decide), fun a na => ⟨a, v, u, rfl, upd_same, fun d nd ne => ⟨rfl, q a _ ((e2.trans e3).trans (err2 na nd ne).1) (err2 na nd ne).2⟩⟩⟩
theorem ee_1K (h : Evl.Ev te σ H v) : EvE (tMkVK C (spI1 K C f) 1 catV (tCons te tNil)) σ H C [(f, v)] := fun H1 e Q q =>
  h H1 e _ fun H2 e2 => ⟨rfl, fun a na => ⟨a, v, rfl, upd_same, fun d nd ne => ⟨rfl, q a _ (e2.trans (err1 na nd ne).1) (err1 na nd ne).2⟩⟩⟩
theorem ee_2K (h : Evl.Ev te1 σ H u) (h2 : Evl.Ev te2 σ H v) : EvE (tMkVK C (spI2 K C f g) 2 revV (tCons te1 (tCons te2 tNil))) σ H C [(g, u), (f, v)] := fun H1 e Q q =>
  h H1 e _ fun H2 e2 => h2 H2 (e.trans e2) _ fun H3 e3 => ⟨rfl, fun a na => ⟨a, v, u, rfl, upd_same, fun d nd ne => ⟨rfl, q a _ ((e2.trans e3).trans (err2 na nd ne).1) (err2 na nd ne).2⟩⟩⟩
theorem ee_0 : EvE (tMkV0 C) σ H C [] := fun H1 e Q q a na => q a _ (Ex.new na) (.inl ⟨upd_same, rfl⟩)
theorem ees_nil : EvEs tNil σ H [] := fun H1 _ _ q => q [] H1 (Ex.refl H1) .nil
theorem ees_cons (h : EvE te σ H C fs) (hr : EvEs ta σ H cs) : EvEs (tCons te ta) σ H ((C, fs) :: cs) := fun H1 e Q q =>
  h H1 e _ fun a H2 e2 er => hr H2 (e.trans e2) _ fun vs H3 e3 ea => q _ H3 (e2.trans e3) (.cons (er.mono e3) ea)
/-- a new list of errors -/
def EvEL (te : TE) (σ : L2.St) (H : Hp) (cs : List (Addr × List (Str × V))) : Prop := ∀ H1, Ex H H1 → ∀ Q : VK, (∀ p vs H2, H1 p = none → Ex H1 H2 → H2 p = some (.lst vs) → ErrAll H2 vs cs → Q (.ref p) H2) → te σ H1 Q
theorem eel_lst (h : EvEs ta σ H cs) (hl : cs.length ≤ 1000) : EvEL (tLst ta) σ H cs := fun H1 e Q q =>
  h H1 e _ fun vs H2 e2 ea => ⟨(by rw [ea.length]; exact Evl.sz_of (Nat.le_trans hl (by decide))), fun p np => q p vs _ (Evl.fresh_back e2 np) (e2.trans (Ex.new np)) upd_same (ea.mono (Ex.new np))⟩
end
end Tx

set_option maxHeartbeats 4000000
/-! Statements over new lists of errors. -/
namespace Tx
open PySem PySem.Spec PyProof.Rows L2
open Evl (Ex)
section
variable {X : Cx} {n f g : Str} {C fI : Addr} {fd : FuncData} {p pos q1 q2 : Pos} {e e1 e2 : Expr} {te te1 te2 : TE}
/-- C(f = e) -/
theorem pe_k1 (E : EC X.K X.mg n C) (J : EI X.prog X.w X.K X.mg X.base C fI fd ["self", f] (spI1 X.K C f)) (bnd : KBn X.K fd ["self", f] 1 [f] catV catV) (room : Room 2 X.A) (hg : Gl X n) (he : PE X e te) (ndb : (n == ("__debug__" : Str)) = false := by decide) :
    PE X (.Call (.Name n p) [] [⟨some f, e, q1⟩] pos) (tMkVK C (spI1 X.K C f) 1 catV (tCons te tNil)) := pe_err1K E J bnd room hg (pk_cons he pk_nil) (by rfl) (by rfl) ndb (by rfl)
/-- C(g = e1, f = e2) -/
theorem pe_k2 (E : EC X.K X.mg n C) (J : EI X.prog X.w X.K X.mg X.base C fI fd ["self", f, g] (spI2 X.K C f g)) (bnd : KBn X.K fd ["self", f, g] 1 [g, f] revV revV) (room : Room 2 X.A) (hg : Gl X n) (h1 : PE X e1 te1) (h2 : PE X e2 te2) (ndb : (n == ("__debug__" : Str)) = false := by decide) :
    PE X (.Call (.Name n p) [] [⟨some g, e1, q1⟩, ⟨some f, e2, q2⟩] pos) (tMkVK C (spI2 X.K C f g) 2 revV (tCons te1 (tCons te2 tNil))) := pe_err2K E J bnd room hg (pk_cons h1 (pk_cons h2 pk_nil)) (by rfl) (by rfl) ndb (by rfl)
end
section
variable {σ : L2.St} {H : Hp} {te tb : TE} {t u : TS} {D : Ends} {i : Nat} {l : Addr} {vs : List V} {cs ds : List (Addr × List (Str × V))}
theorem s_seq (h : t { D with nx := u D } σ H) : tSeq t u D σ H := h
theorem s_asgE (h : EvEL te σ H cs) (k : ∀ p vs H1, Ex H H1 → H1 p = some (.lst vs) → ErrAll H1 vs cs → D.nx (σ.set i (some (.ref p))) H1) : tAsg te (gName i) D σ H := h H (Ex.refl H) _ fun p vs H1 _ e h1 r => k p vs H1 e h1 r
theorem s_retE (h : EvEL te σ H cs) (k : ∀ p vs H1, Ex H H1 → H1 p = some (.lst vs) → ErrAll H1 vs cs → D.rt (.ref p) H1) : tRet te D σ H := h H (Ex.refl H) _ fun p vs H1 _ e h1 r => k p vs H1 e h1 r
theorem q_asgE (h : EvEL te σ H cs) (k : ∀ p vs H1, Ex H H1 → H1 p = some (.lst vs) → ErrAll H1 vs cs → u D (σ.set i (some (.ref p))) H1) : tSeq (tAsg te (gName i)) u D σ H := h H (Ex.refl H) _ fun p vs H1 _ e h1 r => k p vs H1 e h1 r
theorem q_asgL {xs : List V} (h : Evl.EvL te σ H xs) (k : ∀ p H1, Ex H H1 → H p = none → H1 p = some (.lst xs) → u D (σ.set i (some (.ref p))) H1) : tSeq (tAsg te (gName i)) u D σ H := h H (Ex.refl H) _ fun p H1 np e h1 => k p H1 e np h1
theorem q_asg {v : V} (h : Evl.Ev te σ H v) (k : ∀ H1, Ex H H1 → u D (σ.set i (some v)) H1) : tSeq (tAsg te (gName i)) u D σ H := h H (Ex.refl H) _ fun H1 e => k H1 e
theorem q_if {tt : TT} {b : Bool} (h : Evl.EvT tt σ H b) (h1 : b = true → ∀ H1, Ex H H1 → t { D with nx := u D } σ H1) (h2 : b = false → ∀ H1, Ex H H1 → u D σ H1) : tSeq (tIfS tt t tNext) u D σ H := h H (Ex.refl H) _ fun H1 e => by
  cases b with
  | true =>
    show t { D with nx := u D } σ H1
    exact h1 rfl H1 e
  | false =>
    show u D σ H1
    exact h2 rfl H1 e
/-- xs + [..], xs a list of errors -/
theorem eel_cat (hx : Evl.Ev te σ H (.ref l)) (hl : H l = some (.lst vs)) (r : ErrAll H vs cs) (hb : EvEL tb σ H ds) (hz : cs.length + ds.length ≤ 1000) : EvEL (tOp rCat te tb) σ H (cs ++ ds) := fun H1 e Q q =>
  hx H1 e _ fun H2 e2 => hb H2 (e.trans e2) _ fun p us H3 np e3 hp r3 => ⟨l, p, vs, us, rfl, rfl, ((e.trans e2).trans e3) _ _ hl, hp,
    (by rw [r.length, r3.length]; exact Evl.sz_of (Nat.le_trans hz (by decide))), fun p' np' => q p' _ _ (Evl.fresh_back (e2.trans e3) np') ((e2.trans e3).trans (Ex.new np')) upd_same
      (ErrAll.mono (Ex.new np') (ErrAll.append (r.mono ((e.trans e2).trans e3)) r3))⟩
end
end Tx

set_option maxHeartbeats 0
/-! ### a Hook with one more Bool -/
namespace HU
open PySem PySem.Spec PyProof.Rows L2
abbrev AlU : Type := He.AlD × Bool
def obsK (fa : List He.Fa) (fn : List He.DefD) (ex : PySem.W.Frag → Bool) (K : PySem.W.Frag) : AlU := (He.obsD fa fn K, ex K)
def obsU (n : Nat) (fa : List He.Fa) (fn : List He.DefD) (ex : PySem.W.Frag → Bool) (g : Addr → Option Obj) : AlU := obsK fa fn ex (He.frG g (He.asD g n ++ [sysModules]))
def hookU (n : Nat) (fa : List He.Fa) (fn : List He.DefD) (ex : PySem.W.Frag → Bool) : PySem.W.Hook where
  α := AlU
  obs := fun s => obsU n fa fn ex s.heap.get?
  val := fun _ => (He.valD fn, true)
  says := fun _ h => ∃ K : PySem.W.Frag, K.In h ∧ He.SaysD fa fn K ∧ ex K = true
  of := fun _ _ e => ⟨_, He.frG_in, congrArg (fun z : AlU => z.1) e, congrArg (fun z : AlU => z.2) e⟩
  keeps := fun _ _ _ ⟨K, hK, c⟩ k => ⟨K, PySem.W.Frag.In.keeps hK k, c⟩
theorem obsU_eq {n : Nat} {fa : List He.Fa} {fn : List He.DefD} {ex : PySem.W.Frag → Bool} {g : Addr → Option Obj} {s : Shared} (h : ∀ a, g a = s.heap.get? a) : obsU n fa fn ex g = (hookU n fa fn ex).obs s := by
  have e : g = s.heap.get? := funext h
  rw [e] <;> rfl
/-- what the class of an own error says, as a Bool -/
def oexB (K : PySem.W.Frag) (C : Addr) : Bool := (match K.lookup C with
  | some ⟨.type "type", _, .cls cd, sl⟩ => (match cd.mro, sl.toList with
    | .ref C' :: bm, [_, _, _, _, some (.builtin n), _] => C' == C && n == "ValueError.__new__" && !cd.hasDel && cd.hasDict && PySem.HandSPX.refsVE bm
    | _, _ => false)
  | _ => false) && (He.eqO (PySem.W.findIn K (.ref C) "__setattr__") (some (some (.builtin "object.__setattr__"))) && (decide (PySem.W.subIn K (.ref C) (.type "BaseException") = some true) &&
    (decide (PySem.W.typeIn K (.ref C) = some (.type "type")) && PySem.W.keepIn K (.ref C))))
theorem oexB_ok {K : PySem.W.Frag} {C : Addr} (h : oexB K C = true) : OexC K C := by
  obtain ⟨q, h⟩ := He.ba h
  obtain ⟨h2, h⟩ := He.ba h
  obtain ⟨h3, h⟩ := He.ba h
  obtain ⟨h4, h5⟩ := He.ba h
  refine ⟨?_, He.eqO_ok h2, of_decide_eq_true h3, of_decide_eq_true h4, h5⟩
  split at q
  · rename_i dd cd sl ho
    split at q
    · rename_i C' bm k0 k1 k2 k3 n k5 hm hs
      simp only [Bool.and_eq_true, beq_iff_eq, Bool.not_eq_true'] at q
      obtain ⟨⟨⟨⟨rfl, rfl⟩, hdel⟩, hdict⟩, hr⟩ := q
      obtain ⟨nm, bs, mro, ns, qn, hd, sn, sub, ab, col, del⟩ := cd
      dsimp only at hm hdel hdict
      subst hm hdel hdict
      have hsl : sl = #[k0, k1, k2, k3, some (.builtin "ValueError.__new__"), k5] := by
        obtain ⟨l⟩ := sl
        simp only at hs
        rw [hs]
      subst hsl
      exact ⟨nm, qn, ns, bs, bm, sn, sub, ab, col, dd, k0, k1, k2, k3, k5, ho, hr⟩
    · cases q
  · cases q
/-- what isinstance and the fields of its instances ask -/
def excB (K : PySem.W.Frag) (D : Addr) : Bool := He.eqO (PySem.W.findIn K (.ref D) "__getattribute__") (some (some (.builtin "BaseException.__getattribute__"))) && (He.eqO (PySem.W.findIn K (.ref D) "__getattr__") (some none) &&
  (decide (PySem.W.subIn K (.ref D) (.type "BaseException") = some true) && (PySem.W.hasDictIn K D && (He.eqO (PySem.W.findIn K (.ref D) "__class__") (some (some (.builtin "object.__class__"))) &&
  (He.eqO (PySem.W.specialIn K (.builtin "object.__class__") "__get__") (some (some (.builtin "getset_descriptor.__get__"))) && (decide (PySem.W.takesIn K (.builtin "object.__class__") = some true) && decide (PySem.W.mroIn K D (.type "object") = some true)))))))
theorem excB_ok {K : PySem.W.Frag} {D : Addr} (h : excB K D = true) : ExcC K D := by
  obtain ⟨h1, h⟩ := He.ba h
  obtain ⟨h2, h⟩ := He.ba h
  obtain ⟨h3, h⟩ := He.ba h
  obtain ⟨h4, h⟩ := He.ba h
  obtain ⟨h5, h⟩ := He.ba h
  obtain ⟨h6, h⟩ := He.ba h
  obtain ⟨h7, h8⟩ := He.ba h
  exact ⟨He.eqO_ok h1, He.eqO_ok h2, of_decide_eq_true h3, h4, He.eqO_ok h5, He.eqO_ok h6, of_decide_eq_true h7, of_decide_eq_true h8⟩
end HU
namespace K01
open PySem PySem.Spec PyProof.Rows L2
def top (i : Nat) : Stmt := PySem.Challenge.pw_tenantcuts_k01_errors_kept.main.body.getD i (.Pass ⟨0, 0, 0, 0⟩)
def sub (s : Stmt) (j : Nat) : Stmt := match s with
  | .ClassDef _ _ _ body _ _ _ _ _ _ _ => body.getD j (.Pass ⟨0, 0, 0, 0⟩)
  | _ => .Pass ⟨0, 0, 0, 0⟩
abbrev s__law_pen : Stmt := top 24
def d__law_pen : He.DefD := ⟨("_law_pen", none), "_law_pen", "_law_pen", defArgs s__law_pen, defBody s__law_pen, defScope s__law_pen, [], []⟩
abbrev s__law_draw : Stmt := top 25
def d__law_draw : He.DefD := ⟨("_law_draw", none), "_law_draw", "_law_draw", defArgs s__law_draw, defBody s__law_draw, defScope s__law_draw, [], []⟩
abbrev s__law_pick : Stmt := top 26
def d__law_pick : He.DefD := ⟨("_law_pick", none), "_law_pick", "_law_pick", defArgs s__law_pick, defBody s__law_pick, defScope s__law_pick, [], []⟩
abbrev s__law_by_place : Stmt := top 27
def d__law_by_place : He.DefD := ⟨("_law_by_place", none), "_law_by_place", "_law_by_place", defArgs s__law_by_place, defBody s__law_by_place, defScope s__law_by_place, [], []⟩
abbrev s__law_by_name : Stmt := top 28
def d__law_by_name : He.DefD := ⟨("_law_by_name", none), "_law_by_name", "_law_by_name", defArgs s__law_by_name, defBody s__law_by_name, defScope s__law_by_name, [], []⟩
abbrev s__law_signs : Stmt := top 29
def d__law_signs : He.DefD := ⟨("_law_signs", none), "_law_signs", "_law_signs", defArgs s__law_signs, defBody s__law_signs, defScope s__law_signs, [], []⟩
abbrev s__law_kept : Stmt := top 30
def d__law_kept : He.DefD := ⟨("_law_kept", none), "_law_kept", "_law_kept", defArgs s__law_kept, defBody s__law_kept, defScope s__law_kept, [], []⟩
abbrev s__law_marks : Stmt := top 31
def d__law_marks : He.DefD := ⟨("_law_marks", none), "_law_marks", "_law_marks", defArgs s__law_marks, defBody s__law_marks, defScope s__law_marks, [], []⟩
abbrev s__law_value : Stmt := top 32
def d__law_value : He.DefD := ⟨("_law_value", none), "_law_value", "_law_value", defArgs s__law_value, defBody s__law_value, defScope s__law_value, [], []⟩
abbrev s_law : Stmt := top 33
def d_law : He.DefD := ⟨("law", none), "law", "law", defArgs s_law, defBody s_law, defScope s_law, [], []⟩
abbrev s_BadSystem___init__ : Stmt := sub (top 2) 0
def d_BadSystem___init__ : He.DefD := ⟨("BadSystem", some "__init__"), "__init__", "BadSystem.__init__", defArgs s_BadSystem___init__, defBody s_BadSystem___init__, defScope s_BadSystem___init__, [], []⟩
abbrev s_BadCut___init__ : Stmt := sub (top 3) 0
def d_BadCut___init__ : He.DefD := ⟨("BadCut", some "__init__"), "__init__", "BadCut.__init__", defArgs s_BadCut___init__, defBody s_BadCut___init__, defScope s_BadCut___init__, [], []⟩
abbrev s_BadKey___init__ : Stmt := sub (top 4) 0
def d_BadKey___init__ : He.DefD := ⟨("BadKey", some "__init__"), "__init__", "BadKey.__init__", defArgs s_BadKey___init__, defBody s_BadKey___init__, defScope s_BadKey___init__, [], []⟩
abbrev s_BadPlace___init__ : Stmt := sub (top 5) 0
def d_BadPlace___init__ : He.DefD := ⟨("BadPlace", some "__init__"), "__init__", "BadPlace.__init__", defArgs s_BadPlace___init__, defBody s_BadPlace___init__, defScope s_BadPlace___init__, [], []⟩
abbrev s_BadName___init__ : Stmt := sub (top 6) 0
def d_BadName___init__ : He.DefD := ⟨("BadName", some "__init__"), "__init__", "BadName.__init__", defArgs s_BadName___init__, defBody s_BadName___init__, defScope s_BadName___init__, [], []⟩
abbrev s_BadRule___init__ : Stmt := sub (top 7) 0
def d_BadRule___init__ : He.DefD := ⟨("BadRule", some "__init__"), "__init__", "BadRule.__init__", defArgs s_BadRule___init__, defBody s_BadRule___init__, defScope s_BadRule___init__, [], []⟩
abbrev s_BadKind___init__ : Stmt := sub (top 8) 0
def d_BadKind___init__ : He.DefD := ⟨("BadKind", some "__init__"), "__init__", "BadKind.__init__", defArgs s_BadKind___init__, defBody s_BadKind___init__, defScope s_BadKind___init__, [], []⟩
abbrev s_BadLengths___init__ : Stmt := sub (top 9) 0
def d_BadLengths___init__ : He.DefD := ⟨("BadLengths", some "__init__"), "__init__", "BadLengths.__init__", defArgs s_BadLengths___init__, defBody s_BadLengths___init__, defScope s_BadLengths___init__, [], []⟩
abbrev s_BadCount___init__ : Stmt := sub (top 10) 0
def d_BadCount___init__ : He.DefD := ⟨("BadCount", some "__init__"), "__init__", "BadCount.__init__", defArgs s_BadCount___init__, defBody s_BadCount___init__, defScope s_BadCount___init__, [], []⟩
abbrev s_Outside___init__ : Stmt := sub (top 12) 0
def d_Outside___init__ : He.DefD := ⟨("Outside", some "__init__"), "__init__", "Outside.__init__", defArgs s_Outside___init__, defBody s_Outside___init__, defScope s_Outside___init__, [], []⟩
abbrev s_Clash___init__ : Stmt := sub (top 13) 0
def d_Clash___init__ : He.DefD := ⟨("Clash", some "__init__"), "__init__", "Clash.__init__", defArgs s_Clash___init__, defBody s_Clash___init__, defScope s_Clash___init__, [], []⟩
abbrev s_Crosses___init__ : Stmt := sub (top 14) 0
def d_Crosses___init__ : He.DefD := ⟨("Crosses", some "__init__"), "__init__", "Crosses.__init__", defArgs s_Crosses___init__, defBody s_Crosses___init__, defScope s_Crosses___init__, [], []⟩
abbrev s_Opens___init__ : Stmt := sub (top 15) 0
def d_Opens___init__ : He.DefD := ⟨("Opens", some "__init__"), "__init__", "Opens.__init__", defArgs s_Opens___init__, defBody s_Opens___init__, defScope s_Opens___init__, [], []⟩
abbrev s_NotSafe___init__ : Stmt := sub (top 16) 0
def d_NotSafe___init__ : He.DefD := ⟨("NotSafe", some "__init__"), "__init__", "NotSafe.__init__", defArgs s_NotSafe___init__, defBody s_NotSafe___init__, defScope s_NotSafe___init__, [], []⟩
abbrev s_NoDoor___init__ : Stmt := sub (top 17) 0
def d_NoDoor___init__ : He.DefD := ⟨("NoDoor", some "__init__"), "__init__", "NoDoor.__init__", defArgs s_NoDoor___init__, defBody s_NoDoor___init__, defScope s_NoDoor___init__, [], []⟩
abbrev s_NoRule___init__ : Stmt := sub (top 18) 0
def d_NoRule___init__ : He.DefD := ⟨("NoRule", some "__init__"), "__init__", "NoRule.__init__", defArgs s_NoRule___init__, defBody s_NoRule___init__, defScope s_NoRule___init__, [], []⟩
abbrev s_NoKey___init__ : Stmt := sub (top 19) 0
def d_NoKey___init__ : He.DefD := ⟨("NoKey", some "__init__"), "__init__", "NoKey.__init__", defArgs s_NoKey___init__, defBody s_NoKey___init__, defScope s_NoKey___init__, [], []⟩
abbrev s_TooMany___init__ : Stmt := sub (top 20) 0
def d_TooMany___init__ : He.DefD := ⟨("TooMany", some "__init__"), "__init__", "TooMany.__init__", defArgs s_TooMany___init__, defBody s_TooMany___init__, defScope s_TooMany___init__, [], []⟩
abbrev s_BadText___init__ : Stmt := sub (top 22) 0
def d_BadText___init__ : He.DefD := ⟨("BadText", some "__init__"), "__init__", "BadText.__init__", defArgs s_BadText___init__, defBody s_BadText___init__, defScope s_BadText___init__, [], []⟩
def fn : List He.DefD := [d__law_pen, d__law_draw, d__law_pick, d__law_by_place, d__law_by_name, d__law_signs, d__law_kept, d__law_marks, d__law_value, d_law, d_BadSystem___init__, d_BadCut___init__, d_BadKey___init__, d_BadPlace___init__, d_BadName___init__, d_BadRule___init__, d_BadKind___init__, d_BadLengths___init__, d_BadCount___init__, d_Outside___init__, d_Clash___init__, d_Crosses___init__, d_Opens___init__, d_NotSafe___init__, d_NoDoor___init__, d_NoRule___init__, d_NoKey___init__, d_TooMany___init__, d_BadText___init__]
def fa : List He.Fa := [.glo "_law_pen", .glo "_law_draw", .glo "_law_pick", .glo "_law_by_place", .glo "_law_by_name", .glo "_law_signs", .glo "_law_kept", .glo "_law_marks", .glo "_law_value", .glo "law", .glo "KeyingError", .glo "BadSystem", .glo "BadCut", .glo "BadKey", .glo "BadPlace", .glo "BadName", .glo "BadRule", .glo "BadKind", .glo "BadLengths", .glo "BadCount", .glo "Unlike", .glo "Outside", .glo "Clash", .glo "Crosses", .glo "Opens", .glo "NotSafe", .glo "NoDoor", .glo "NoRule", .glo "NoKey", .glo "TooMany", .glo "Nothing", .glo "BadText", .free "ValueError", .free "list", .free "int", .free "len", .free "abs", .free "isinstance", .free "range", .free "repr", .meth "BadSystem" "__init__", .noat "BadSystem" "part", .meth "BadCut" "__init__", .noat "BadCut" "value", .meth "BadKey" "__init__", .noat "BadKey" "value", .meth "BadPlace" "__init__", .noat "BadPlace" "value", .meth "BadName" "__init__", .noat "BadName" "value", .meth "BadRule" "__init__", .noat "BadRule" "part", .meth "BadKind" "__init__", .noat "BadKind" "part", .meth "BadLengths" "__init__", .noat "BadLengths" "part", .meth "BadCount" "__init__", .noat "BadCount" "value", .exc "Unlike", .meth "Outside" "__init__"] ++
  ([.noat "Outside" "key", .meth "Clash" "__init__", .noat "Clash" "place", .meth "Crosses" "__init__", .noat "Crosses" "name", .meth "Opens" "__init__", .noat "Opens" "key", .noat "Opens" "other", .meth "NotSafe" "__init__", .noat "NotSafe" "key", .noat "NotSafe" "other", .meth "NoDoor" "__init__", .noat "NoDoor" "name", .meth "NoRule" "__init__", .noat "NoRule" "name", .meth "NoKey" "__init__", .noat "NoKey" "value", .meth "TooMany" "__init__", .noat "TooMany" "what", .noat "TooMany" "most", .exc "Nothing", .meth "BadText" "__init__", .noat "BadText" "line", .noat "BadText" "word"] : List He.Fa)
def errs : List Str := ["BadSystem", "BadCut", "BadKey", "BadPlace", "BadName", "BadRule", "BadKind", "BadLengths", "BadCount", "Unlike", "Outside", "Clash", "Crosses", "Opens", "NotSafe", "NoDoor", "NoRule", "NoKey", "TooMany", "Nothing", "BadText"]
def isB (K : PySem.W.Frag) : Bool := errs.all fun c => decide (PySem.W.kitOne K (.ref (He.ga K c)) (.type "ValueError") = some true) && (decide (PySem.W.kitOne K (.ref (He.ga K c)) (.ref (He.ga K "KeyingError")) = some true) && errs.all fun d => decide (PySem.W.kitOne K (.ref (He.ga K c)) (.ref (He.ga K d)) = some (c == d)))
def sysB (K : PySem.W.Frag) : Bool := match K.lookup sysModules with
  | some o => decide (o.cls = .type "dict")
  | none => false
def exB (K : PySem.W.Frag) : Bool := sysB K && (errs.all fun c => HU.oexB K (He.ga K c) && HU.excB K (He.ga K c)) && isB K
abbrev R : PySem.W.OpenRow := PySem.W.OpenLaw.row PySem.Challenge.rw_tenantcuts_k01_errors_kept
abbrev hk : PySem.W.Hook := HU.hookU 5 fa fn exB
def ob (s : PySem.W.SharedT) : HU.AlU := HU.obsU 5 fa fn exB (HandSHeadRun.getT s)
theorem ob_eq (s : PySem.W.SharedT) : ob s = hk.obs s.abs := HU.obsU_eq (HandSHeadRun.getT_eq s)
def loose : List Str := (["KeyingError", "BadSystem", "BadCut", "BadKey", "BadPlace", "BadName", "BadRule", "BadKind", "BadLengths", "BadCount", "Unlike", "Outside", "Clash", "Crosses", "Opens", "NotSafe", "NoDoor", "NoRule", "NoKey", "TooMany", "Nothing", "BadText", "_law_pen", "_law_draw", "_law_pick", "_law_by_place", "_law_by_name", "_law_signs", "_law_kept", "_law_marks", "_law_value"] : List Str)
abbrev qv : Program := PySem.W.view R.prog [33]
theorem run (w : World) : HandSHeadRun.RunEq R qv hk ob 8000 loose w := by
  intro os
  kernel_rfl
end K01

set_option maxHeartbeats 4000000
namespace K01
open PySem PySem.Spec PyProof.Rows L2
/-- the built-ins that the text names stand -/
structure TB (mg : Str → Option Value) : Prop where
  b_len : mg "len" = none
  b_int : mg "int" = none
  b_abs : mg "abs" = none
  b_list : mg "list" = none
  b_range : mg "range" = none
  b_repr : mg "repr" = none
  b_isinstance : mg "isinstance" = none
  b_ValueError : mg "ValueError" = none
/-- the pen at p: its cells, at most n draws so far -/
def Pen (H : Hp) (p : Addr) (n : Nat) : Prop := ∃ (c : Addr) (ns : List Int) (i g : Int), H p = some (.lst [.ref c, .int i, .int g]) ∧ H c = some (.lst (ns.map V.int)) ∧ ns.length ≤ 63 ∧ 0 ≤ i ∧ i ≤ n
/-- all but p is kept -/
def Kept (p : Addr) (H H' : Hp) : Prop := ∀ a o, a ≠ p → H a = some o → H' a = some o
def spDraw : Sp := fun vs H Q _ => ∃ (p : Addr) (many : Int) (n : Nat), vs = [.ref p, .int many] ∧ Pen H p n ∧ n ≤ 100000 ∧ 0 < many ∧ many.natAbs.log2 < 9000 ∧
  ∀ (r : Int) (H' : Hp), 0 ≤ r → r < many → Kept p H H' → Pen H' p (n + 1) → Q (.int r) H'
/-- a cut behind a statement -/
theorem seq_cut {t u : TS} {D : Ends} {σ : L2.St} {H : Hp} (P : L2.St → Hp → Prop) (h2 : ∀ σ' H', P σ' H' → u D σ' H') (h1 : ∀ nx : L2.St → Hp → Prop, (∀ σ' H', P σ' H' → nx σ' H') → t { D with nx := nx } σ H) : tSeq t u D σ H := h1 _ h2
theorem eqv_nil (ns : List Int) : PyData.eqv (.list (ns.map PyData.int)) (.list []) = ns.isEmpty := by
  cases ns <;> rfl
theorem dpAll_ints {K : PySem.W.Frag} {H : Hp} : ∀ ns : List Int, DpAll K H (ns.map V.int) (ns.map PyData.int)
  | [] => .nil
  | n :: r => .cons (.int n) (dpAll_ints r)
theorem pow5 {x : Int} (h0 : 0 ≤ x) (h : x ≤ 10000000000) : CPow x 5 := ⟨by decide, by decide, by
  have : x.natAbs ≤ 10000000000 := by omega
  exact Nat.lt_of_le_of_lt this (by decide)⟩
theorem mul_le_of {a b A B : Int} (ha0 : 0 ≤ a) (hb0 : 0 ≤ b) (ha : a ≤ A) (hb : b ≤ B) : 0 ≤ a * b ∧ a * b ≤ A * B :=
  ⟨Int.mul_nonneg ha0 hb0, Int.mul_le_mul ha hb hb0 (Int.le_trans ha0 ha)⟩
theorem sc_draw : FnScope ["_law_pen_here", "_law_many", "_law_digit", "_law_at", "_law_cell", "_law_great", "_law_mixed"] ["_law_pen_here", "_law_many"] (defScope s__law_draw) := ⟨rfl, rfl, rfl, by decide +kernel, rfl, by decide +kernel, by decide +kernel⟩
section
variable {P : Program} {w : World} {K : PySem.W.Frag} {mg : Str → Option Value} {base : Heap} {f : Addr} {fd : FuncData}
theorem ok_draw (T : TB mg) (F : Fun K "_law_draw" "_law_draw" s__law_draw f fd) : FnOk P w K mg base CX0 1 f fd ["_law_pen_here", "_law_many"] spDraw := by
  refine F.ok sc_draw (fun vs H Q E h => ?_) (fun cdv A outer s H vs Q E hr h => ?_)
  · obtain ⟨p, many, n, rfl, _⟩ := h
    rfl
  · refine ⟨_, (pss_cons (ps_if (pt_cmpR op_gt (pe_ix ix_list (pv 0) pe_int (fun _ _ => rfl)) pe_int (nomark _)) (pss_cons (ps_set (i := 2) sc_draw.nd rfl (Or.inl rfl) (pe_op op_mod (pe_callTy call_int1 (by rfl) T.b_int (by decide +kernel) (pa_cons (pe_ix ix_list (pv 0) pe_int (fun _ _ => rfl)) pa_nil)) (pv 1)))
    (pss_cons (ps_asg (pe_op op_fdivW (pe_callTy call_int1 (by rfl) T.b_int (by decide +kernel) (pa_cons (pe_ix ix_list (pv 0) pe_int (fun _ _ => rfl)) pa_nil)) (pv 1)) (pg_sub (pv 0) pe_int set_list))
    (pss_one (ps_ret (pv 2))))) pss_nil)
    (pss_cons (ps_set (i := 3) sc_draw.nd rfl (Or.inl rfl) (pe_ix ix_list (pv 0) pe_int (fun _ _ => rfl)))
    (pss_cons (ps_asg (pe_op op_add (pv 3) pe_int) (pg_sub (pv 0) pe_int set_list))
    (pss_cons (ps_set (i := 4) sc_draw.nd rfl (Or.inl rfl) (pe_op op_add (pe_op op_mul pe_int (pv 3)) pe_int))
    (pss_cons (ps_if (pt_cmpR (op_neD hr.units) (pe_ix ix_list (pv 0) pe_int (fun _ _ => rfl)) (pe_lst pa_nil) (nomark _)) (pss_one (ps_set (i := 4) sc_draw.nd rfl (Or.inl rfl) (pe_ix ix_list (pe_ix ix_list (pv 0) pe_int (fun _ _ => rfl)) (pe_op op_mod (pe_callTy call_int1 (by rfl) T.b_int (by decide +kernel) (pa_cons (pv 3) pa_nil)) (pe_callB call_len (by rfl) T.b_len (by decide +kernel) (pa_cons (pe_ix ix_list (pv 0) pe_int (fun _ _ => rfl)) pa_nil))) (fun _ _ => rfl)))) pss_nil)
    (pss_cons (ps_if (PW.pt (pw_and (pt_cmpR op_lt (pv 3) (pe_callB call_len (by rfl) T.b_len (by decide +kernel) (pa_cons (pe_ix ix_list (pv 0) pe_int (fun _ _ => rfl)) pa_nil)) (nomark _)) (pw_and1 (pt_cmpR op_ge (pe_callB call_abs (by rfl) T.b_abs (by decide +kernel) (pa_cons (pv 4) pa_nil)) (pe_op op_pow pe_int pe_int) (nomark _))))) (pss_cons (ps_set (i := 5) sc_draw.nd rfl (Or.inl rfl) (pe_op op_add (pe_op op_mul pe_int (pe_op op_sub (pe_callB call_abs (by rfl) T.b_abs (by decide +kernel) (pa_cons (pv 4) pa_nil)) (pe_op op_pow pe_int pe_int))) (pe_callTy call_int1 (by rfl) T.b_int (by decide +kernel) (pa_cons (pe_cmpR op_lt (pv 4) pe_int (nomark _)) pa_nil))))
    (pss_cons (ps_asg (pe_op op_fdivW (pe_callTy call_int1 (by rfl) T.b_int (by decide +kernel) (pa_cons (pv 5) pa_nil)) (pv 1)) (pg_sub (pv 0) pe_int set_list))
    (pss_one (ps_ret (pe_op op_mod (pe_callTy call_int1 (by rfl) T.b_int (by decide +kernel) (pa_cons (pv 5) pa_nil)) (pv 1)))))) pss_nil)
    (pss_cons (ps_set (i := 6) sc_draw.nd rfl (Or.inl rfl) (pe_op op_mod (pe_callTy call_int1 (by rfl) T.b_int (by decide +kernel) (pa_cons (pe_op op_pow (pe_op op_add (pe_op op_add (pe_op op_mod (pe_callTy call_int1 (by rfl) T.b_int (by decide +kernel) (pa_cons (pv 4) pa_nil)) pe_int) (pe_op op_mul pe_int (pv 3))) pe_int) pe_int) pa_nil)) pe_int))
    (pss_cons (ps_set (i := 6) sc_draw.nd rfl (Or.inl rfl) (pe_op op_mod (pe_callTy call_int1 (by rfl) T.b_int (by decide +kernel) (pa_cons (pe_op op_pow (pe_op op_add (pe_op op_add (pe_op op_mul (pv 6) (pe_op op_add (pe_op op_mul pe_int (pv 3)) pe_int)) (pe_op op_mul (pe_op op_mul pe_int (pv 3)) (pv 3))) pe_int) pe_int) pa_nil)) pe_int))
    (pss_one (ps_ret (pe_op op_mod (pe_callTy call_int1 (by rfl) T.b_int (by decide +kernel) (pa_cons (pe_op op_fdivW (pv 6) pe_int) pa_nil)) (pv 1)))))))))))), ?_⟩
    obtain ⟨p, many, n, rfl, ⟨c, ns, i, g, hp, hc, hl, h0, hi⟩, hn, hm, hlog, k⟩ := h
    have hpc : c ≠ p := fun e => by
      rw [e, hp] at hc
      cases ns with
      | nil => cases hc
      | cons a r => cases hc
    have fin : ∀ (x : Int) (j g' : Int) (H' : Hp), Kept p H H' → H' p = some (.lst [.ref c, .int j, .int g']) → 0 ≤ j → j ≤ i + 1 → Q (.int (x % many)) H' := fun x j g' H' kp hp' hj hj' =>
      k _ H' (Int.emod_nonneg _ (by omega)) (Int.emod_lt_of_pos _ hm) kp ⟨c, ns, j, g', hp', kp c _ hpc hc, hl, hj, by omega⟩
    refine ⟨_, rfl, p, _, _, _, rfl, rfl, SqL.of hp, rfl, _, _, rfl, rfl, _, rfl, ?_⟩
    refine ite2 (fun cg => ?_) (fun cg => ?_)
    · refine ⟨_, rfl, p, _, _, _, rfl, rfl, SqL.of hp, rfl, .inl ⟨_, rfl, _, rfl, _, _, rfl, rfl, hm, ?_⟩⟩
      refine ⟨_, rfl, p, _, _, _, rfl, rfl, SqL.of hp, rfl, .inl ⟨_, rfl, _, rfl, _, _, rfl, rfl, ⟨hm, hlog⟩, _, rfl, p, _, _, 2, rfl, rfl, hp, rfl, ?_⟩⟩
      refine ⟨_, rfl, ?_⟩
      exact fin g i (g / many) _ (fun a o ne e => (upd_ne ne).trans e) upd_same h0 (by omega)
    refine ⟨_, rfl, p, _, _, _, rfl, rfl, SqL.of hp, rfl, ?_⟩
    refine ⟨_, rfl, _, _, rfl, rfl, _, rfl, p, _, _, 1, rfl, rfl, hp, rfl, ?_⟩
    have hp1 : upd H p (.lst [.ref c, .int (i + 1), .int g]) p = some (.lst [.ref c, .int (i + 1), .int g]) := upd_same
    have hc1 : upd H p (.lst [.ref c, .int (i + 1), .int g]) c = some (.lst (ns.map V.int)) := (upd_ne hpc).trans hc
    have k1 : Kept p H (upd H p (.lst [.ref c, .int (i + 1), .int g])) := fun a o ne e => (upd_ne ne).trans e
    show tSeq _ _ _ _ (upd H p (.lst [.ref c, .int (i + 1), .int g]))
    generalize upd H p (.lst [.ref c, .int (i + 1), .int g]) = H1 at hp1 hc1 k1
    refine ⟨_, rfl, _, _, rfl, rfl, .inl ⟨by decide, by decide⟩, _, _, rfl, rfl, ?_⟩
    dsimp only [gName]
    refine seq_cut (fun σ' H' => ∃ x : Int, σ' = [some (.ref p), some (.int many), none, some (.int i), some (.int x), none, none] ∧ H' p = some (.lst [.ref c, .int (i + 1), .int g]) ∧ H' c = some (.lst (ns.map V.int)) ∧ Kept p H H') (fun σ' H2 hh => ?_) (fun nx hnx => ?_)
    · obtain ⟨x, rfl, hp2, hc2, k2⟩ := hh
      refine seq_cut (fun σ' H' => σ' = [some (.ref p), some (.int many), none, some (.int i), some (.int x), none, none] ∧ H' = H2) (fun σ' H3 hh => ?_) (fun nx hnx => ?_)
      · obtain ⟨rfl, rfl⟩ := hh
        have hx0 : 0 ≤ x % 2147483587 := Int.emod_nonneg _ (by decide)
        have hx1 : x % 2147483587 < 2147483587 := Int.emod_lt_of_pos _ (by decide)
        refine ⟨_, rfl, .inl ⟨_, rfl, _, _, rfl, rfl, (by show (0 : Int) < _; decide), _, rfl, _, _, rfl, rfl, .inl ⟨by decide, by decide⟩, _, _, rfl, rfl, _, _, rfl, rfl, _, _, rfl, rfl, pow5 (by omega) (by omega), .inl ⟨_, rfl, _, _, rfl, rfl, (by show (0 : Int) < _; decide), ?_⟩⟩⟩
        generalize ((x % 2147483587 + 60072 * i + 228) ^ (5 : Int).toNat) = y
        have hy0 : 0 ≤ y % 2147483269 := Int.emod_nonneg _ (by decide)
        have hy1 : y % 2147483269 < 2147483269 := Int.emod_lt_of_pos _ (by decide)
        have m1 := mul_le_of hy0 (show (0 : Int) ≤ 2 * i + 103 by omega) (Int.le_of_lt hy1) (show 2 * i + 103 ≤ 200103 by omega)
        have m2 := mul_le_of h0 h0 (show i ≤ 100000 by omega) (show i ≤ 100000 by omega)
        refine ⟨_, rfl, _, rfl, _, _, rfl, rfl, .inl ⟨by decide, by decide⟩, _, _, rfl, rfl, _, _, rfl, rfl, .inl ⟨by omega, by omega⟩, _, rfl, _, _, rfl, rfl, .inl ⟨by decide, by decide⟩, _, rfl, _, _, rfl, rfl, .inr ⟨by omega, by omega⟩, _, _, rfl, rfl, _, _, rfl, rfl, _, _, rfl, rfl, ?c3, ?_⟩
        case c3 =>
          refine ⟨by decide, by decide, ?_⟩
          have e : 48054 * i * i = 48054 * (i * i) := Int.mul_assoc _ _ _
          rw [e]
          have m3 : (y % 2147483269 * (2 * i + 103) + 48054 * (i * i) + 72).natAbs ≤ 1000000000000000 := by omega
          exact Nat.lt_of_le_of_lt m3 (by decide)
        refine .inl ⟨_, rfl, _, _, rfl, rfl, (by show (0 : Int) < _; decide), ?_⟩
        refine ⟨_, rfl, _, _, rfl, rfl, ⟨by decide, by decide⟩, .inl ⟨_, rfl, _, rfl, _, _, rfl, rfl, hm, ?_⟩⟩
        exact fin _ (i + 1) g _ k2 hp2 (by omega) (by omega)
      · refine ⟨_, rfl, _, rfl, p, _, _, _, rfl, rfl, SqL.of hp2, rfl, _, _, rfl, .inl ⟨_, SqL.of hc2, rfl⟩, _, _, rfl, rfl, _, rfl, ?_⟩
        refine ite2 (fun ca => ?_) (fun ca => ?_)
        · refine ⟨_, rfl, _, rfl, _, _, rfl, rfl, ⟨by decide, by decide, by decide⟩, _, _, rfl, rfl, _, rfl, ?_⟩
          refine ite2 (fun cb => ?_) (fun cb => ?_)
          · refine ⟨_, rfl, _, rfl, _, _, rfl, rfl, ⟨by decide, by decide, by decide⟩, _, _, rfl, rfl, _, _, rfl, rfl, .inl ⟨by decide, by decide⟩, _, rfl, _, _, rfl, rfl, .inr ⟨_, rfl, _, _, rfl, rfl, ?_⟩⟩
            refine ⟨_, rfl, .inl ⟨_, rfl, _, rfl, _, _, rfl, rfl, ⟨hm, hlog⟩, _, rfl, p, _, _, 2, rfl, rfl, hp2, rfl, ?_⟩⟩
            refine ⟨_, rfl, .inl ⟨_, rfl, _, rfl, _, _, rfl, rfl, hm, ?_⟩⟩
            exact fin _ (i + 1) _ _ (fun a o ne e => (upd_ne ne).trans (k2 a o ne e)) upd_same (by omega) (by omega)
          · exact hnx _ _ ⟨rfl, rfl⟩
        · refine ite2 (fun cb => by cases cb) (fun cb => ?_)
          exact hnx _ _ ⟨rfl, rfl⟩
    · refine ⟨_, rfl, p, _, _, _, rfl, rfl, SqL.of hp1, rfl, by show 0 ≤ sizeLine; omega, fun q hq => ?_⟩
      have nq : ∀ {a : Addr} {o : HO}, H1 a = some o → a ≠ q := fun e => ne_of_none e hq
      have hp2 := (upd_ne (o := .lst []) (nq hp1)).trans hp1
      have hc2 := (upd_ne (o := .lst []) (nq hc1)).trans hc1
      refine ⟨_, _, .lst (SqL.of hc2) (dpAll_ints ns), .lst (SqL.of upd_same) .nil, PySem.W.ke_shaped_ints ns, rfl, _, rfl, ?_⟩
      rw [eqv_nil]
      have k2 : Kept p H (upd H1 q (.lst [])) := fun a o ne e => (upd_ne (nq (k1 a o ne e))).trans (k1 a o ne e)
      refine ite2 (fun ce => ?_) (fun ce => ?_)
      · have hne : 0 < ns.length := by
          cases ns with
          | nil => cases ce
          | cons a r => exact Nat.succ_pos _
        have hlen : (0 : Int) < ((ns.map V.int).length : Nat) := by rw [List.length_map]; omega
        have e1 : (i % ((ns.map V.int).length : Nat)).toNat < ns.length := by
          have := Int.emod_lt_of_pos i hlen
          have h3 := Int.emod_nonneg i (show ((ns.map V.int).length : Int) ≠ 0 by omega)
          rw [List.length_map] at this h3
          rw [List.length_map]
          omega
        have e2 : atI (ns.map V.int) (i % ((ns.map V.int).length : Nat)) = some (.int (ns[(i % ((ns.map V.int).length : Nat)).toNat])) := by
          have h3 := Int.emod_nonneg i (show ((ns.map V.int).length : Int) ≠ 0 by omega)
          have h4 := atI_nat (xs := ns.map V.int) (j := (i % ((ns.map V.int).length : Nat)).toNat) (v := .int (ns[(i % ((ns.map V.int).length : Nat)).toNat])) (by rw [List.getElem?_map, List.getElem?_eq_getElem e1]; rfl)
          rw [Int.toNat_of_nonneg h3] at h4
          exact h4
        refine ⟨_, rfl, p, _, _, _, rfl, rfl, SqL.of hp2, rfl, _, rfl, .inl ⟨_, rfl, _, rfl, p, _, _, _, rfl, rfl, SqL.of hp2, rfl, _, _, rfl, .inl ⟨_, SqL.of hc2, rfl⟩, _, _, rfl, rfl, hlen, c, _, _, _, rfl, rfl, SqL.of hc2, e2, ?_⟩⟩
        exact hnx _ _ ⟨_, rfl, hp2, hc2, k2⟩
      · exact hnx _ _ ⟨_, rfl, hp2, hc2, k2⟩
end
end K01

set_option maxHeartbeats 4000000
namespace K01
open PySem PySem.Spec PyProof.Rows L2 Tx
open Evl (Ex)
/-- all that is known of the class n with one field (two fields, none) -/
structure EB1 (P : Program) (w : World) (K : PySem.W.Frag) (mg : Str → Option Value) (base : Heap) (n f : Str) : Prop where
  c : EC K mg n (He.ga K n)
  no : PySem.W.findIn K (.ref (He.ga K n)) f = some none
  i : ∃ fI fd, EI P w K mg base (He.ga K n) fI fd ["self", f] (spI1 K (He.ga K n) f) ∧ Binds K fd ["self", f] [] ∧ KBn K fd ["self", f] 1 [f] catV catV
structure EB2 (P : Program) (w : World) (K : PySem.W.Frag) (mg : Str → Option Value) (base : Heap) (n f g : Str) : Prop where
  c : EC K mg n (He.ga K n)
  no : PySem.W.findIn K (.ref (He.ga K n)) f = some none
  no2 : PySem.W.findIn K (.ref (He.ga K n)) g = some none
  i : ∃ fI fd, EI P w K mg base (He.ga K n) fI fd ["self", f, g] (spI2 K (He.ga K n) f g) ∧ Binds K fd ["self", f, g] [] ∧ KBn K fd ["self", f, g] 1 [g, f] revV revV
structure EB0 (K : PySem.W.Frag) (mg : Str → Option Value) (n : Str) : Prop where
  c : EC K mg n (He.ga K n)
  e : PySem.W.excIn K (He.ga K n) He.veBase "ValueError.__new__" = true
section
variable {P : Program} {w : World} {K : PySem.W.Frag} {mg : Str → Option Value} {base : Heap} {fI : Addr} {fd : FuncData} {C : Addr}
theorem sc_BadSystem : FnScope ["self", "part"] ["self", "part"] (defScope s_BadSystem___init__) := ⟨rfl, rfl, rfl, by decide +kernel, rfl, by decide +kernel, by decide +kernel⟩
theorem ok_BadSystem (F : Fun K "__init__" "BadSystem.__init__" s_BadSystem___init__ fI fd) (ox : OexC K C) (no : PySem.W.findIn K (.ref C) "part" = some none) : FnOk P w K mg base CX0 1 fI fd ["self", "part"] (spI1 K C "part") := by
  refine F.ok sc_BadSystem (fun vs H Q E h => ?_) (fun cdv A outer s H vs Q E hr h => ⟨_, pss_one (ps_ost (pv 0) (pv 1)), ?_⟩)
  · obtain ⟨a, v, rfl, _⟩ := h
    rfl
  · obtain ⟨a, v, rfl, ha, k⟩ := h
    exact ⟨_, rfl, _, rfl, a, C, rfl, ox, no, .inl ⟨ha, fun d nd ne => k d nd ne⟩⟩
theorem kb_BadSystem (F : Fun K "__init__" "BadSystem.__init__" s_BadSystem___init__ fI fd) : Binds K fd ["self", "part"] [] ∧ KBn K fd ["self", "part"] 1 ["part"] catV catV := by
  refine ⟨F.binds fun _ _ _ _ _ _ us hl => match us, hl with | [_, _], _ => rfl, ?_⟩
  obtain ⟨oc, od, kV, doc, pm, an, cdv, ct, osl, rfl, look, code⟩ := F.ex
  exact ⟨fun s us ws _ l1 l2 => match us, ws, l1, l2 with | [_], [_], _, _ => .of_eq rfl, fun r1 r2 => Vals.append r1 r2⟩
theorem sc_BadCut : FnScope ["self", "value"] ["self", "value"] (defScope s_BadCut___init__) := ⟨rfl, rfl, rfl, by decide +kernel, rfl, by decide +kernel, by decide +kernel⟩
theorem ok_BadCut (F : Fun K "__init__" "BadCut.__init__" s_BadCut___init__ fI fd) (ox : OexC K C) (no : PySem.W.findIn K (.ref C) "value" = some none) : FnOk P w K mg base CX0 1 fI fd ["self", "value"] (spI1 K C "value") := by
  refine F.ok sc_BadCut (fun vs H Q E h => ?_) (fun cdv A outer s H vs Q E hr h => ⟨_, pss_one (ps_ost (pv 0) (pv 1)), ?_⟩)
  · obtain ⟨a, v, rfl, _⟩ := h
    rfl
  · obtain ⟨a, v, rfl, ha, k⟩ := h
    exact ⟨_, rfl, _, rfl, a, C, rfl, ox, no, .inl ⟨ha, fun d nd ne => k d nd ne⟩⟩
theorem kb_BadCut (F : Fun K "__init__" "BadCut.__init__" s_BadCut___init__ fI fd) : Binds K fd ["self", "value"] [] ∧ KBn K fd ["self", "value"] 1 ["value"] catV catV := by
  refine ⟨F.binds fun _ _ _ _ _ _ us hl => match us, hl with | [_, _], _ => rfl, ?_⟩
  obtain ⟨oc, od, kV, doc, pm, an, cdv, ct, osl, rfl, look, code⟩ := F.ex
  exact ⟨fun s us ws _ l1 l2 => match us, ws, l1, l2 with | [_], [_], _, _ => .of_eq rfl, fun r1 r2 => Vals.append r1 r2⟩
theorem sc_BadKey : FnScope ["self", "value"] ["self", "value"] (defScope s_BadKey___init__) := ⟨rfl, rfl, rfl, by decide +kernel, rfl, by decide +kernel, by decide +kernel⟩
theorem ok_BadKey (F : Fun K "__init__" "BadKey.__init__" s_BadKey___init__ fI fd) (ox : OexC K C) (no : PySem.W.findIn K (.ref C) "value" = some none) : FnOk P w K mg base CX0 1 fI fd ["self", "value"] (spI1 K C "value") := by
  refine F.ok sc_BadKey (fun vs H Q E h => ?_) (fun cdv A outer s H vs Q E hr h => ⟨_, pss_one (ps_ost (pv 0) (pv 1)), ?_⟩)
  · obtain ⟨a, v, rfl, _⟩ := h
    rfl
  · obtain ⟨a, v, rfl, ha, k⟩ := h
    exact ⟨_, rfl, _, rfl, a, C, rfl, ox, no, .inl ⟨ha, fun d nd ne => k d nd ne⟩⟩
theorem kb_BadKey (F : Fun K "__init__" "BadKey.__init__" s_BadKey___init__ fI fd) : Binds K fd ["self", "value"] [] ∧ KBn K fd ["self", "value"] 1 ["value"] catV catV := by
  refine ⟨F.binds fun _ _ _ _ _ _ us hl => match us, hl with | [_, _], _ => rfl, ?_⟩
  obtain ⟨oc, od, kV, doc, pm, an, cdv, ct, osl, rfl, look, code⟩ := F.ex
  exact ⟨fun s us ws _ l1 l2 => match us, ws, l1, l2 with | [_], [_], _, _ => .of_eq rfl, fun r1 r2 => Vals.append r1 r2⟩
theorem sc_BadPlace : FnScope ["self", "value"] ["self", "value"] (defScope s_BadPlace___init__) := ⟨rfl, rfl, rfl, by decide +kernel, rfl, by decide +kernel, by decide +kernel⟩
theorem ok_BadPlace (F : Fun K "__init__" "BadPlace.__init__" s_BadPlace___init__ fI fd) (ox : OexC K C) (no : PySem.W.findIn K (.ref C) "value" = some none) : FnOk P w K mg base CX0 1 fI fd ["self", "value"] (spI1 K C "value") := by
  refine F.ok sc_BadPlace (fun vs H Q E h => ?_) (fun cdv A outer s H vs Q E hr h => ⟨_, pss_one (ps_ost (pv 0) (pv 1)), ?_⟩)
  · obtain ⟨a, v, rfl, _⟩ := h
    rfl
  · obtain ⟨a, v, rfl, ha, k⟩ := h
    exact ⟨_, rfl, _, rfl, a, C, rfl, ox, no, .inl ⟨ha, fun d nd ne => k d nd ne⟩⟩
theorem kb_BadPlace (F : Fun K "__init__" "BadPlace.__init__" s_BadPlace___init__ fI fd) : Binds K fd ["self", "value"] [] ∧ KBn K fd ["self", "value"] 1 ["value"] catV catV := by
  refine ⟨F.binds fun _ _ _ _ _ _ us hl => match us, hl with | [_, _], _ => rfl, ?_⟩
  obtain ⟨oc, od, kV, doc, pm, an, cdv, ct, osl, rfl, look, code⟩ := F.ex
  exact ⟨fun s us ws _ l1 l2 => match us, ws, l1, l2 with | [_], [_], _, _ => .of_eq rfl, fun r1 r2 => Vals.append r1 r2⟩
theorem sc_BadName : FnScope ["self", "value"] ["self", "value"] (defScope s_BadName___init__) := ⟨rfl, rfl, rfl, by decide +kernel, rfl, by decide +kernel, by decide +kernel⟩
theorem ok_BadName (F : Fun K "__init__" "BadName.__init__" s_BadName___init__ fI fd) (ox : OexC K C) (no : PySem.W.findIn K (.ref C) "value" = some none) : FnOk P w K mg base CX0 1 fI fd ["self", "value"] (spI1 K C "value") := by
  refine F.ok sc_BadName (fun vs H Q E h => ?_) (fun cdv A outer s H vs Q E hr h => ⟨_, pss_one (ps_ost (pv 0) (pv 1)), ?_⟩)
  · obtain ⟨a, v, rfl, _⟩ := h
    rfl
  · obtain ⟨a, v, rfl, ha, k⟩ := h
    exact ⟨_, rfl, _, rfl, a, C, rfl, ox, no, .inl ⟨ha, fun d nd ne => k d nd ne⟩⟩
theorem kb_BadName (F : Fun K "__init__" "BadName.__init__" s_BadName___init__ fI fd) : Binds K fd ["self", "value"] [] ∧ KBn K fd ["self", "value"] 1 ["value"] catV catV := by
  refine ⟨F.binds fun _ _ _ _ _ _ us hl => match us, hl with | [_, _], _ => rfl, ?_⟩
  obtain ⟨oc, od, kV, doc, pm, an, cdv, ct, osl, rfl, look, code⟩ := F.ex
  exact ⟨fun s us ws _ l1 l2 => match us, ws, l1, l2 with | [_], [_], _, _ => .of_eq rfl, fun r1 r2 => Vals.append r1 r2⟩
theorem sc_BadRule : FnScope ["self", "part"] ["self", "part"] (defScope s_BadRule___init__) := ⟨rfl, rfl, rfl, by decide +kernel, rfl, by decide +kernel, by decide +kernel⟩
theorem ok_BadRule (F : Fun K "__init__" "BadRule.__init__" s_BadRule___init__ fI fd) (ox : OexC K C) (no : PySem.W.findIn K (.ref C) "part" = some none) : FnOk P w K mg base CX0 1 fI fd ["self", "part"] (spI1 K C "part") := by
  refine F.ok sc_BadRule (fun vs H Q E h => ?_) (fun cdv A outer s H vs Q E hr h => ⟨_, pss_one (ps_ost (pv 0) (pv 1)), ?_⟩)
  · obtain ⟨a, v, rfl, _⟩ := h
    rfl
  · obtain ⟨a, v, rfl, ha, k⟩ := h
    exact ⟨_, rfl, _, rfl, a, C, rfl, ox, no, .inl ⟨ha, fun d nd ne => k d nd ne⟩⟩
theorem kb_BadRule (F : Fun K "__init__" "BadRule.__init__" s_BadRule___init__ fI fd) : Binds K fd ["self", "part"] [] ∧ KBn K fd ["self", "part"] 1 ["part"] catV catV := by
  refine ⟨F.binds fun _ _ _ _ _ _ us hl => match us, hl with | [_, _], _ => rfl, ?_⟩
  obtain ⟨oc, od, kV, doc, pm, an, cdv, ct, osl, rfl, look, code⟩ := F.ex
  exact ⟨fun s us ws _ l1 l2 => match us, ws, l1, l2 with | [_], [_], _, _ => .of_eq rfl, fun r1 r2 => Vals.append r1 r2⟩
theorem sc_BadKind : FnScope ["self", "part"] ["self", "part"] (defScope s_BadKind___init__) := ⟨rfl, rfl, rfl, by decide +kernel, rfl, by decide +kernel, by decide +kernel⟩
theorem ok_BadKind (F : Fun K "__init__" "BadKind.__init__" s_BadKind___init__ fI fd) (ox : OexC K C) (no : PySem.W.findIn K (.ref C) "part" = some none) : FnOk P w K mg base CX0 1 fI fd ["self", "part"] (spI1 K C "part") := by
  refine F.ok sc_BadKind (fun vs H Q E h => ?_) (fun cdv A outer s H vs Q E hr h => ⟨_, pss_one (ps_ost (pv 0) (pv 1)), ?_⟩)
  · obtain ⟨a, v, rfl, _⟩ := h
    rfl
  · obtain ⟨a, v, rfl, ha, k⟩ := h
    exact ⟨_, rfl, _, rfl, a, C, rfl, ox, no, .inl ⟨ha, fun d nd ne => k d nd ne⟩⟩
theorem kb_BadKind (F : Fun K "__init__" "BadKind.__init__" s_BadKind___init__ fI fd) : Binds K fd ["self", "part"] [] ∧ KBn K fd ["self", "part"] 1 ["part"] catV catV := by
  refine ⟨F.binds fun _ _ _ _ _ _ us hl => match us, hl with | [_, _], _ => rfl, ?_⟩
  obtain ⟨oc, od, kV, doc, pm, an, cdv, ct, osl, rfl, look, code⟩ := F.ex
  exact ⟨fun s us ws _ l1 l2 => match us, ws, l1, l2 with | [_], [_], _, _ => .of_eq rfl, fun r1 r2 => Vals.append r1 r2⟩
theorem sc_BadLengths : FnScope ["self", "part"] ["self", "part"] (defScope s_BadLengths___init__) := ⟨rfl, rfl, rfl, by decide +kernel, rfl, by decide +kernel, by decide +kernel⟩
theorem ok_BadLengths (F : Fun K "__init__" "BadLengths.__init__" s_BadLengths___init__ fI fd) (ox : OexC K C) (no : PySem.W.findIn K (.ref C) "part" = some none) : FnOk P w K mg base CX0 1 fI fd ["self", "part"] (spI1 K C "part") := by
  refine F.ok sc_BadLengths (fun vs H Q E h => ?_) (fun cdv A outer s H vs Q E hr h => ⟨_, pss_one (ps_ost (pv 0) (pv 1)), ?_⟩)
  · obtain ⟨a, v, rfl, _⟩ := h
    rfl
  · obtain ⟨a, v, rfl, ha, k⟩ := h
    exact ⟨_, rfl, _, rfl, a, C, rfl, ox, no, .inl ⟨ha, fun d nd ne => k d nd ne⟩⟩
theorem kb_BadLengths (F : Fun K "__init__" "BadLengths.__init__" s_BadLengths___init__ fI fd) : Binds K fd ["self", "part"] [] ∧ KBn K fd ["self", "part"] 1 ["part"] catV catV := by
  refine ⟨F.binds fun _ _ _ _ _ _ us hl => match us, hl with | [_, _], _ => rfl, ?_⟩
  obtain ⟨oc, od, kV, doc, pm, an, cdv, ct, osl, rfl, look, code⟩ := F.ex
  exact ⟨fun s us ws _ l1 l2 => match us, ws, l1, l2 with | [_], [_], _, _ => .of_eq rfl, fun r1 r2 => Vals.append r1 r2⟩
theorem sc_BadCount : FnScope ["self", "value"] ["self", "value"] (defScope s_BadCount___init__) := ⟨rfl, rfl, rfl, by decide +kernel, rfl, by decide +kernel, by decide +kernel⟩
theorem ok_BadCount (F : Fun K "__init__" "BadCount.__init__" s_BadCount___init__ fI fd) (ox : OexC K C) (no : PySem.W.findIn K (.ref C) "value" = some none) : FnOk P w K mg base CX0 1 fI fd ["self", "value"] (spI1 K C "value") := by
  refine F.ok sc_BadCount (fun vs H Q E h => ?_) (fun cdv A outer s H vs Q E hr h => ⟨_, pss_one (ps_ost (pv 0) (pv 1)), ?_⟩)
  · obtain ⟨a, v, rfl, _⟩ := h
    rfl
  · obtain ⟨a, v, rfl, ha, k⟩ := h
    exact ⟨_, rfl, _, rfl, a, C, rfl, ox, no, .inl ⟨ha, fun d nd ne => k d nd ne⟩⟩
theorem kb_BadCount (F : Fun K "__init__" "BadCount.__init__" s_BadCount___init__ fI fd) : Binds K fd ["self", "value"] [] ∧ KBn K fd ["self", "value"] 1 ["value"] catV catV := by
  refine ⟨F.binds fun _ _ _ _ _ _ us hl => match us, hl with | [_, _], _ => rfl, ?_⟩
  obtain ⟨oc, od, kV, doc, pm, an, cdv, ct, osl, rfl, look, code⟩ := F.ex
  exact ⟨fun s us ws _ l1 l2 => match us, ws, l1, l2 with | [_], [_], _, _ => .of_eq rfl, fun r1 r2 => Vals.append r1 r2⟩
theorem sc_Outside : FnScope ["self", "key"] ["self", "key"] (defScope s_Outside___init__) := ⟨rfl, rfl, rfl, by decide +kernel, rfl, by decide +kernel, by decide +kernel⟩
theorem ok_Outside (F : Fun K "__init__" "Outside.__init__" s_Outside___init__ fI fd) (ox : OexC K C) (no : PySem.W.findIn K (.ref C) "key" = some none) : FnOk P w K mg base CX0 1 fI fd ["self", "key"] (spI1 K C "key") := by
  refine F.ok sc_Outside (fun vs H Q E h => ?_) (fun cdv A outer s H vs Q E hr h => ⟨_, pss_one (ps_ost (pv 0) (pv 1)), ?_⟩)
  · obtain ⟨a, v, rfl, _⟩ := h
    rfl
  · obtain ⟨a, v, rfl, ha, k⟩ := h
    exact ⟨_, rfl, _, rfl, a, C, rfl, ox, no, .inl ⟨ha, fun d nd ne => k d nd ne⟩⟩
theorem kb_Outside (F : Fun K "__init__" "Outside.__init__" s_Outside___init__ fI fd) : Binds K fd ["self", "key"] [] ∧ KBn K fd ["self", "key"] 1 ["key"] catV catV := by
  refine ⟨F.binds fun _ _ _ _ _ _ us hl => match us, hl with | [_, _], _ => rfl, ?_⟩
  obtain ⟨oc, od, kV, doc, pm, an, cdv, ct, osl, rfl, look, code⟩ := F.ex
  exact ⟨fun s us ws _ l1 l2 => match us, ws, l1, l2 with | [_], [_], _, _ => .of_eq rfl, fun r1 r2 => Vals.append r1 r2⟩
theorem sc_Clash : FnScope ["self", "place"] ["self", "place"] (defScope s_Clash___init__) := ⟨rfl, rfl, rfl, by decide +kernel, rfl, by decide +kernel, by decide +kernel⟩
theorem ok_Clash (F : Fun K "__init__" "Clash.__init__" s_Clash___init__ fI fd) (ox : OexC K C) (no : PySem.W.findIn K (.ref C) "place" = some none) : FnOk P w K mg base CX0 1 fI fd ["self", "place"] (spI1 K C "place") := by
  refine F.ok sc_Clash (fun vs H Q E h => ?_) (fun cdv A outer s H vs Q E hr h => ⟨_, pss_one (ps_ost (pv 0) (pv 1)), ?_⟩)
  · obtain ⟨a, v, rfl, _⟩ := h
    rfl
  · obtain ⟨a, v, rfl, ha, k⟩ := h
    exact ⟨_, rfl, _, rfl, a, C, rfl, ox, no, .inl ⟨ha, fun d nd ne => k d nd ne⟩⟩
theorem kb_Clash (F : Fun K "__init__" "Clash.__init__" s_Clash___init__ fI fd) : Binds K fd ["self", "place"] [] ∧ KBn K fd ["self", "place"] 1 ["place"] catV catV := by
  refine ⟨F.binds fun _ _ _ _ _ _ us hl => match us, hl with | [_, _], _ => rfl, ?_⟩
  obtain ⟨oc, od, kV, doc, pm, an, cdv, ct, osl, rfl, look, code⟩ := F.ex
  exact ⟨fun s us ws _ l1 l2 => match us, ws, l1, l2 with | [_], [_], _, _ => .of_eq rfl, fun r1 r2 => Vals.append r1 r2⟩
theorem sc_Crosses : FnScope ["self", "name"] ["self", "name"] (defScope s_Crosses___init__) := ⟨rfl, rfl, rfl, by decide +kernel, rfl, by decide +kernel, by decide +kernel⟩
theorem ok_Crosses (F : Fun K "__init__" "Crosses.__init__" s_Crosses___init__ fI fd) (ox : OexC K C) (no : PySem.W.findIn K (.ref C) "name" = some none) : FnOk P w K mg base CX0 1 fI fd ["self", "name"] (spI1 K C "name") := by
  refine F.ok sc_Crosses (fun vs H Q E h => ?_) (fun cdv A outer s H vs Q E hr h => ⟨_, pss_one (ps_ost (pv 0) (pv 1)), ?_⟩)
  · obtain ⟨a, v, rfl, _⟩ := h
    rfl
  · obtain ⟨a, v, rfl, ha, k⟩ := h
    exact ⟨_, rfl, _, rfl, a, C, rfl, ox, no, .inl ⟨ha, fun d nd ne => k d nd ne⟩⟩
theorem kb_Crosses (F : Fun K "__init__" "Crosses.__init__" s_Crosses___init__ fI fd) : Binds K fd ["self", "name"] [] ∧ KBn K fd ["self", "name"] 1 ["name"] catV catV := by
  refine ⟨F.binds fun _ _ _ _ _ _ us hl => match us, hl with | [_, _], _ => rfl, ?_⟩
  obtain ⟨oc, od, kV, doc, pm, an, cdv, ct, osl, rfl, look, code⟩ := F.ex
  exact ⟨fun s us ws _ l1 l2 => match us, ws, l1, l2 with | [_], [_], _, _ => .of_eq rfl, fun r1 r2 => Vals.append r1 r2⟩
theorem sc_Opens : FnScope ["self", "key", "other"] ["self", "key", "other"] (defScope s_Opens___init__) := ⟨rfl, rfl, rfl, by decide +kernel, rfl, by decide +kernel, by decide +kernel⟩
theorem ok_Opens (F : Fun K "__init__" "Opens.__init__" s_Opens___init__ fI fd) (ox : OexC K C) (no : PySem.W.findIn K (.ref C) "key" = some none) (no2 : PySem.W.findIn K (.ref C) "other" = some none) : FnOk P w K mg base CX0 1 fI fd ["self", "key", "other"] (spI2 K C "key" "other") := by
  refine F.ok sc_Opens (fun vs H Q E h => ?_) (fun cdv A outer s H vs Q E hr h => ⟨_, pss_cons (ps_ost (pv 0) (pv 1)) (pss_one (ps_ost (pv 0) (pv 2))), ?_⟩)
  · obtain ⟨a, v, u, rfl, _⟩ := h
    rfl
  · obtain ⟨a, v, u, rfl, ha, k⟩ := h
    refine ⟨_, rfl, _, rfl, a, C, rfl, ox, no, .inl ⟨ha, fun d nd ne => ?_⟩⟩
    exact ⟨_, rfl, _, rfl, a, C, rfl, ox, no2, .inr ⟨d, _, upd_same, (upd_ne ne).trans upd_same, (by show 1 ≤ 900; decide), k d nd ne⟩⟩
theorem kb_Opens (F : Fun K "__init__" "Opens.__init__" s_Opens___init__ fI fd) : Binds K fd ["self", "key", "other"] [] ∧ KBn K fd ["self", "key", "other"] 1 ["other", "key"] revV revV := by
  refine ⟨F.binds fun _ _ _ _ _ _ us hl => match us, hl with | [_, _, _], _ => rfl, ?_⟩
  obtain ⟨oc, od, kV, doc, pm, an, cdv, ct, osl, rfl, look, code⟩ := F.ex
  exact ⟨fun s us ws _ l1 l2 => match us, ws, l1, l2 with | [_], [_, _], _, _ => .of_eq rfl, fun r1 r2 => Vals.append r1 (Vals.reverse r2)⟩
theorem sc_NotSafe : FnScope ["self", "key", "other"] ["self", "key", "other"] (defScope s_NotSafe___init__) := ⟨rfl, rfl, rfl, by decide +kernel, rfl, by decide +kernel, by decide +kernel⟩
theorem ok_NotSafe (F : Fun K "__init__" "NotSafe.__init__" s_NotSafe___init__ fI fd) (ox : OexC K C) (no : PySem.W.findIn K (.ref C) "key" = some none) (no2 : PySem.W.findIn K (.ref C) "other" = some none) : FnOk P w K mg base CX0 1 fI fd ["self", "key", "other"] (spI2 K C "key" "other") := by
  refine F.ok sc_NotSafe (fun vs H Q E h => ?_) (fun cdv A outer s H vs Q E hr h => ⟨_, pss_cons (ps_ost (pv 0) (pv 1)) (pss_one (ps_ost (pv 0) (pv 2))), ?_⟩)
  · obtain ⟨a, v, u, rfl, _⟩ := h
    rfl
  · obtain ⟨a, v, u, rfl, ha, k⟩ := h
    refine ⟨_, rfl, _, rfl, a, C, rfl, ox, no, .inl ⟨ha, fun d nd ne => ?_⟩⟩
    exact ⟨_, rfl, _, rfl, a, C, rfl, ox, no2, .inr ⟨d, _, upd_same, (upd_ne ne).trans upd_same, (by show 1 ≤ 900; decide), k d nd ne⟩⟩
theorem kb_NotSafe (F : Fun K "__init__" "NotSafe.__init__" s_NotSafe___init__ fI fd) : Binds K fd ["self", "key", "other"] [] ∧ KBn K fd ["self", "key", "other"] 1 ["other", "key"] revV revV := by
  refine ⟨F.binds fun _ _ _ _ _ _ us hl => match us, hl with | [_, _, _], _ => rfl, ?_⟩
  obtain ⟨oc, od, kV, doc, pm, an, cdv, ct, osl, rfl, look, code⟩ := F.ex
  exact ⟨fun s us ws _ l1 l2 => match us, ws, l1, l2 with | [_], [_, _], _, _ => .of_eq rfl, fun r1 r2 => Vals.append r1 (Vals.reverse r2)⟩
theorem sc_NoDoor : FnScope ["self", "name"] ["self", "name"] (defScope s_NoDoor___init__) := ⟨rfl, rfl, rfl, by decide +kernel, rfl, by decide +kernel, by decide +kernel⟩
theorem ok_NoDoor (F : Fun K "__init__" "NoDoor.__init__" s_NoDoor___init__ fI fd) (ox : OexC K C) (no : PySem.W.findIn K (.ref C) "name" = some none) : FnOk P w K mg base CX0 1 fI fd ["self", "name"] (spI1 K C "name") := by
  refine F.ok sc_NoDoor (fun vs H Q E h => ?_) (fun cdv A outer s H vs Q E hr h => ⟨_, pss_one (ps_ost (pv 0) (pv 1)), ?_⟩)
  · obtain ⟨a, v, rfl, _⟩ := h
    rfl
  · obtain ⟨a, v, rfl, ha, k⟩ := h
    exact ⟨_, rfl, _, rfl, a, C, rfl, ox, no, .inl ⟨ha, fun d nd ne => k d nd ne⟩⟩
theorem kb_NoDoor (F : Fun K "__init__" "NoDoor.__init__" s_NoDoor___init__ fI fd) : Binds K fd ["self", "name"] [] ∧ KBn K fd ["self", "name"] 1 ["name"] catV catV := by
  refine ⟨F.binds fun _ _ _ _ _ _ us hl => match us, hl with | [_, _], _ => rfl, ?_⟩
  obtain ⟨oc, od, kV, doc, pm, an, cdv, ct, osl, rfl, look, code⟩ := F.ex
  exact ⟨fun s us ws _ l1 l2 => match us, ws, l1, l2 with | [_], [_], _, _ => .of_eq rfl, fun r1 r2 => Vals.append r1 r2⟩
theorem sc_NoRule : FnScope ["self", "name"] ["self", "name"] (defScope s_NoRule___init__) := ⟨rfl, rfl, rfl, by decide +kernel, rfl, by decide +kernel, by decide +kernel⟩
theorem ok_NoRule (F : Fun K "__init__" "NoRule.__init__" s_NoRule___init__ fI fd) (ox : OexC K C) (no : PySem.W.findIn K (.ref C) "name" = some none) : FnOk P w K mg base CX0 1 fI fd ["self", "name"] (spI1 K C "name") := by
  refine F.ok sc_NoRule (fun vs H Q E h => ?_) (fun cdv A outer s H vs Q E hr h => ⟨_, pss_one (ps_ost (pv 0) (pv 1)), ?_⟩)
  · obtain ⟨a, v, rfl, _⟩ := h
    rfl
  · obtain ⟨a, v, rfl, ha, k⟩ := h
    exact ⟨_, rfl, _, rfl, a, C, rfl, ox, no, .inl ⟨ha, fun d nd ne => k d nd ne⟩⟩
theorem kb_NoRule (F : Fun K "__init__" "NoRule.__init__" s_NoRule___init__ fI fd) : Binds K fd ["self", "name"] [] ∧ KBn K fd ["self", "name"] 1 ["name"] catV catV := by
  refine ⟨F.binds fun _ _ _ _ _ _ us hl => match us, hl with | [_, _], _ => rfl, ?_⟩
  obtain ⟨oc, od, kV, doc, pm, an, cdv, ct, osl, rfl, look, code⟩ := F.ex
  exact ⟨fun s us ws _ l1 l2 => match us, ws, l1, l2 with | [_], [_], _, _ => .of_eq rfl, fun r1 r2 => Vals.append r1 r2⟩
theorem sc_NoKey : FnScope ["self", "value"] ["self", "value"] (defScope s_NoKey___init__) := ⟨rfl, rfl, rfl, by decide +kernel, rfl, by decide +kernel, by decide +kernel⟩
theorem ok_NoKey (F : Fun K "__init__" "NoKey.__init__" s_NoKey___init__ fI fd) (ox : OexC K C) (no : PySem.W.findIn K (.ref C) "value" = some none) : FnOk P w K mg base CX0 1 fI fd ["self", "value"] (spI1 K C "value") := by
  refine F.ok sc_NoKey (fun vs H Q E h => ?_) (fun cdv A outer s H vs Q E hr h => ⟨_, pss_one (ps_ost (pv 0) (pv 1)), ?_⟩)
  · obtain ⟨a, v, rfl, _⟩ := h
    rfl
  · obtain ⟨a, v, rfl, ha, k⟩ := h
    exact ⟨_, rfl, _, rfl, a, C, rfl, ox, no, .inl ⟨ha, fun d nd ne => k d nd ne⟩⟩
theorem kb_NoKey (F : Fun K "__init__" "NoKey.__init__" s_NoKey___init__ fI fd) : Binds K fd ["self", "value"] [] ∧ KBn K fd ["self", "value"] 1 ["value"] catV catV := by
  refine ⟨F.binds fun _ _ _ _ _ _ us hl => match us, hl with | [_, _], _ => rfl, ?_⟩
  obtain ⟨oc, od, kV, doc, pm, an, cdv, ct, osl, rfl, look, code⟩ := F.ex
  exact ⟨fun s us ws _ l1 l2 => match us, ws, l1, l2 with | [_], [_], _, _ => .of_eq rfl, fun r1 r2 => Vals.append r1 r2⟩
theorem sc_TooMany : FnScope ["self", "what", "most"] ["self", "what", "most"] (defScope s_TooMany___init__) := ⟨rfl, rfl, rfl, by decide +kernel, rfl, by decide +kernel, by decide +kernel⟩
theorem ok_TooMany (F : Fun K "__init__" "TooMany.__init__" s_TooMany___init__ fI fd) (ox : OexC K C) (no : PySem.W.findIn K (.ref C) "what" = some none) (no2 : PySem.W.findIn K (.ref C) "most" = some none) : FnOk P w K mg base CX0 1 fI fd ["self", "what", "most"] (spI2 K C "what" "most") := by
  refine F.ok sc_TooMany (fun vs H Q E h => ?_) (fun cdv A outer s H vs Q E hr h => ⟨_, pss_cons (ps_ost (pv 0) (pv 1)) (pss_one (ps_ost (pv 0) (pv 2))), ?_⟩)
  · obtain ⟨a, v, u, rfl, _⟩ := h
    rfl
  · obtain ⟨a, v, u, rfl, ha, k⟩ := h
    refine ⟨_, rfl, _, rfl, a, C, rfl, ox, no, .inl ⟨ha, fun d nd ne => ?_⟩⟩
    exact ⟨_, rfl, _, rfl, a, C, rfl, ox, no2, .inr ⟨d, _, upd_same, (upd_ne ne).trans upd_same, (by show 1 ≤ 900; decide), k d nd ne⟩⟩
theorem kb_TooMany (F : Fun K "__init__" "TooMany.__init__" s_TooMany___init__ fI fd) : Binds K fd ["self", "what", "most"] [] ∧ KBn K fd ["self", "what", "most"] 1 ["most", "what"] revV revV := by
  refine ⟨F.binds fun _ _ _ _ _ _ us hl => match us, hl with | [_, _, _], _ => rfl, ?_⟩
  obtain ⟨oc, od, kV, doc, pm, an, cdv, ct, osl, rfl, look, code⟩ := F.ex
  exact ⟨fun s us ws _ l1 l2 => match us, ws, l1, l2 with | [_], [_, _], _, _ => .of_eq rfl, fun r1 r2 => Vals.append r1 (Vals.reverse r2)⟩
theorem sc_BadText : FnScope ["self", "line", "word"] ["self", "line", "word"] (defScope s_BadText___init__) := ⟨rfl, rfl, rfl, by decide +kernel, rfl, by decide +kernel, by decide +kernel⟩
theorem ok_BadText (F : Fun K "__init__" "BadText.__init__" s_BadText___init__ fI fd) (ox : OexC K C) (no : PySem.W.findIn K (.ref C) "line" = some none) (no2 : PySem.W.findIn K (.ref C) "word" = some none) : FnOk P w K mg base CX0 1 fI fd ["self", "line", "word"] (spI2 K C "line" "word") := by
  refine F.ok sc_BadText (fun vs H Q E h => ?_) (fun cdv A outer s H vs Q E hr h => ⟨_, pss_cons (ps_ost (pv 0) (pv 1)) (pss_one (ps_ost (pv 0) (pv 2))), ?_⟩)
  · obtain ⟨a, v, u, rfl, _⟩ := h
    rfl
  · obtain ⟨a, v, u, rfl, ha, k⟩ := h
    refine ⟨_, rfl, _, rfl, a, C, rfl, ox, no, .inl ⟨ha, fun d nd ne => ?_⟩⟩
    exact ⟨_, rfl, _, rfl, a, C, rfl, ox, no2, .inr ⟨d, _, upd_same, (upd_ne ne).trans upd_same, (by show 1 ≤ 900; decide), k d nd ne⟩⟩
theorem kb_BadText (F : Fun K "__init__" "BadText.__init__" s_BadText___init__ fI fd) : Binds K fd ["self", "line", "word"] [] ∧ KBn K fd ["self", "line", "word"] 1 ["word", "line"] revV revV := by
  refine ⟨F.binds fun _ _ _ _ _ _ us hl => match us, hl with | [_, _, _], _ => rfl, ?_⟩
  obtain ⟨oc, od, kV, doc, pm, an, cdv, ct, osl, rfl, look, code⟩ := F.ex
  exact ⟨fun s us ws _ l1 l2 => match us, ws, l1, l2 with | [_], [_, _], _, _ => .of_eq rfl, fun r1 r2 => Vals.append r1 (Vals.reverse r2)⟩
end
structure EG (K : PySem.W.Frag) (mg : Str → Option Value) : Prop where
  g : mg "KeyingError" = some (.ref (He.ga K "KeyingError"))
structure TC (P : Program) (w : World) (K : PySem.W.Frag) (mg : Str → Option Value) (base : Heap) : Prop where
  tb : TB mg
  sys : SysIn K
  k : EG K mg
  c_BadSystem : EB1 P w K mg base "BadSystem" "part"
  c_BadCut : EB1 P w K mg base "BadCut" "value"
  c_BadKey : EB1 P w K mg base "BadKey" "value"
  c_BadPlace : EB1 P w K mg base "BadPlace" "value"
  c_BadName : EB1 P w K mg base "BadName" "value"
  c_BadRule : EB1 P w K mg base "BadRule" "part"
  c_BadKind : EB1 P w K mg base "BadKind" "part"
  c_BadLengths : EB1 P w K mg base "BadLengths" "part"
  c_BadCount : EB1 P w K mg base "BadCount" "value"
  c_Unlike : EB0 K mg "Unlike"
  c_Outside : EB1 P w K mg base "Outside" "key"
  c_Clash : EB1 P w K mg base "Clash" "place"
  c_Crosses : EB1 P w K mg base "Crosses" "name"
  c_Opens : EB2 P w K mg base "Opens" "key" "other"
  c_NotSafe : EB2 P w K mg base "NotSafe" "key" "other"
  c_NoDoor : EB1 P w K mg base "NoDoor" "name"
  c_NoRule : EB1 P w K mg base "NoRule" "name"
  c_NoKey : EB1 P w K mg base "NoKey" "value"
  c_TooMany : EB2 P w K mg base "TooMany" "what" "most"
  c_Nothing : EB0 K mg "Nothing"
  c_BadText : EB2 P w K mg base "BadText" "line" "word"
  isV : ∀ c ∈ errs, PySem.W.kitOne K (.ref (He.ga K c)) (.type "ValueError") = some true
  isK : ∀ c ∈ errs, PySem.W.kitOne K (.ref (He.ga K c)) (.ref (He.ga K "KeyingError")) = some true
  isD : ∀ c ∈ errs, ∀ d ∈ errs, PySem.W.kitOne K (.ref (He.ga K c)) (.ref (He.ga K d)) = some (c == d)
  ex : ∀ c ∈ errs, ExcC K (He.ga K c)
/-- what is made of a and b -/
def spec (K : PySem.W.Frag) (a b : V) : List (Addr × List (Str × V)) := [(He.ga K "BadSystem", [("part", a)]), (He.ga K "BadCut", [("value", a)]), (He.ga K "BadKey", [("value", a)]), (He.ga K "BadPlace", [("value", a)]), (He.ga K "BadName", [("value", a)]), (He.ga K "BadRule", [("part", a)]), (He.ga K "BadKind", [("part", a)]), (He.ga K "BadLengths", [("part", a)]), (He.ga K "BadCount", [("value", a)]), (He.ga K "Unlike", []), (He.ga K "Outside", [("key", a)]), (He.ga K "Clash", [("place", a)]), (He.ga K "Crosses", [("name", a)]), (He.ga K "Opens", [("other", b), ("key", a)]), (He.ga K "NotSafe", [("other", b), ("key", a)]), (He.ga K "NoDoor", [("name", a)]), (He.ga K "NoRule", [("name", a)]), (He.ga K "NoKey", [("value", a)]), (He.ga K "TooMany", [("most", b), ("what", a)]), (He.ga K "Nothing", []), (He.ga K "BadText", [("word", b), ("line", a)])]
def spBy (K : PySem.W.Frag) : Sp := fun vs H Q _ => ∃ a b : V, vs = [a, b] ∧ ∀ (p : Addr) (us : List V) (H' : Hp), Ex H H' → H' p = some (.lst us) → ErrAll H' us (spec K a b) → Q (.ref p) H'
end K01

set_option maxHeartbeats 4000000
namespace K01
open PySem PySem.Spec PyProof.Rows L2 Tx
open Evl (Ex)
section
variable {P : Program} {w : World} {K : PySem.W.Frag} {mg : Str → Option Value} {base : Heap} {f : Addr} {fd : FuncData}
theorem sc_by_place : FnScope ["_law_a", "_law_b", "_law_some"] ["_law_a", "_law_b"] (defScope s__law_by_place) := ⟨rfl, rfl, rfl, by decide +kernel, rfl, by decide +kernel, by decide +kernel⟩
theorem ok_by_place (T : TC P w K mg base) (F : Fun K "_law_by_place" "_law_by_place" s__law_by_place f fd) : FnOk P w K mg base CX0 3 f fd ["_law_a", "_law_b"] (spBy K) := by
  obtain ⟨I_BadSystem, D_BadSystem, J_BadSystem, B_BadSystem, N_BadSystem⟩ := T.c_BadSystem.i
  obtain ⟨I_BadCut, D_BadCut, J_BadCut, B_BadCut, N_BadCut⟩ := T.c_BadCut.i
  obtain ⟨I_BadKey, D_BadKey, J_BadKey, B_BadKey, N_BadKey⟩ := T.c_BadKey.i
  obtain ⟨I_BadPlace, D_BadPlace, J_BadPlace, B_BadPlace, N_BadPlace⟩ := T.c_BadPlace.i
  obtain ⟨I_BadName, D_BadName, J_BadName, B_BadName, N_BadName⟩ := T.c_BadName.i
  obtain ⟨I_BadRule, D_BadRule, J_BadRule, B_BadRule, N_BadRule⟩ := T.c_BadRule.i
  obtain ⟨I_BadKind, D_BadKind, J_BadKind, B_BadKind, N_BadKind⟩ := T.c_BadKind.i
  obtain ⟨I_BadLengths, D_BadLengths, J_BadLengths, B_BadLengths, N_BadLengths⟩ := T.c_BadLengths.i
  obtain ⟨I_BadCount, D_BadCount, J_BadCount, B_BadCount, N_BadCount⟩ := T.c_BadCount.i
  obtain ⟨I_Outside, D_Outside, J_Outside, B_Outside, N_Outside⟩ := T.c_Outside.i
  obtain ⟨I_Clash, D_Clash, J_Clash, B_Clash, N_Clash⟩ := T.c_Clash.i
  obtain ⟨I_Crosses, D_Crosses, J_Crosses, B_Crosses, N_Crosses⟩ := T.c_Crosses.i
  obtain ⟨I_Opens, D_Opens, J_Opens, B_Opens, N_Opens⟩ := T.c_Opens.i
  obtain ⟨I_NotSafe, D_NotSafe, J_NotSafe, B_NotSafe, N_NotSafe⟩ := T.c_NotSafe.i
  obtain ⟨I_NoDoor, D_NoDoor, J_NoDoor, B_NoDoor, N_NoDoor⟩ := T.c_NoDoor.i
  obtain ⟨I_NoRule, D_NoRule, J_NoRule, B_NoRule, N_NoRule⟩ := T.c_NoRule.i
  obtain ⟨I_NoKey, D_NoKey, J_NoKey, B_NoKey, N_NoKey⟩ := T.c_NoKey.i
  obtain ⟨I_TooMany, D_TooMany, J_TooMany, B_TooMany, N_TooMany⟩ := T.c_TooMany.i
  obtain ⟨I_BadText, D_BadText, J_BadText, B_BadText, N_BadText⟩ := T.c_BadText.i
  refine F.ok sc_by_place (fun vs H Q E h => ?_) (fun cdv A outer s H vs Q E hr h => ?_)
  · obtain ⟨a, b, rfl, _⟩ := h
    rfl
  · refine ⟨_, (pss_cons (ps_set (i := 2) sc_by_place.nd rfl (Or.inl rfl) (pe_lst (pa_cons (pe_err1 T.c_BadSystem.c J_BadSystem B_BadSystem hr (by rfl) (pv 0))
        (pa_cons (pe_err1 T.c_BadCut.c J_BadCut B_BadCut hr (by rfl) (pv 0))
        (pa_cons (pe_err1 T.c_BadKey.c J_BadKey B_BadKey hr (by rfl) (pv 0))
        (pa_cons (pe_err1 T.c_BadPlace.c J_BadPlace B_BadPlace hr (by rfl) (pv 0))
        (pa_cons (pe_err1 T.c_BadName.c J_BadName B_BadName hr (by rfl) (pv 0))
        (pa_cons (pe_err1 T.c_BadRule.c J_BadRule B_BadRule hr (by rfl) (pv 0))
        (pa_cons (pe_err1 T.c_BadKind.c J_BadKind B_BadKind hr (by rfl) (pv 0))
        (pa_cons (pe_err1 T.c_BadLengths.c J_BadLengths B_BadLengths hr (by rfl) (pv 0))
        pa_nil))))))))))
      (pss_cons (ps_set (i := 2) sc_by_place.nd rfl (Or.inl rfl) (pe_op op_cat (pv 2) (pe_lst (pa_cons (pe_err1 T.c_BadCount.c J_BadCount B_BadCount hr (by rfl) (pv 0))
        (pa_cons (pe_mkV0 T.c_Unlike.e T.c_Unlike.c.ox.kC (by rfl) T.c_Unlike.c.g)
        (pa_cons (pe_err1 T.c_Outside.c J_Outside B_Outside hr (by rfl) (pv 0))
        (pa_cons (pe_err1 T.c_Clash.c J_Clash B_Clash hr (by rfl) (pv 0))
        (pa_cons (pe_err1 T.c_Crosses.c J_Crosses B_Crosses hr (by rfl) (pv 0))
        (pa_cons (pe_err2 T.c_Opens.c J_Opens B_Opens hr (by rfl) (pv 0) (pv 1))
        (pa_cons (pe_err2 T.c_NotSafe.c J_NotSafe B_NotSafe hr (by rfl) (pv 0) (pv 1))
        (pa_cons (pe_err1 T.c_NoDoor.c J_NoDoor B_NoDoor hr (by rfl) (pv 0))
        pa_nil)))))))))))
      (pss_one (ps_ret (pe_op op_cat (pv 2) (pe_lst (pa_cons (pe_err1 T.c_NoRule.c J_NoRule B_NoRule hr (by rfl) (pv 0))
        (pa_cons (pe_err1 T.c_NoKey.c J_NoKey B_NoKey hr (by rfl) (pv 0))
        (pa_cons (pe_err2 T.c_TooMany.c J_TooMany B_TooMany hr (by rfl) (pv 0) (pv 1))
        (pa_cons (pe_mkV0 T.c_Nothing.e T.c_Nothing.c.ox.kC (by rfl) T.c_Nothing.c.g)
        (pa_cons (pe_err2 T.c_BadText.c J_BadText B_BadText hr (by rfl) (pv 0) (pv 1))
        pa_nil))))))))))), ?_⟩
    obtain ⟨a, b, rfl, k⟩ := h
    refine s_seq (s_asgE (eel_lst (ees_cons (ee_1 (Evl.ev_var rfl)) (ees_cons (ee_1 (Evl.ev_var rfl)) (ees_cons (ee_1 (Evl.ev_var rfl)) (ees_cons (ee_1 (Evl.ev_var rfl)) (ees_cons (ee_1 (Evl.ev_var rfl)) (ees_cons (ee_1 (Evl.ev_var rfl)) (ees_cons (ee_1 (Evl.ev_var rfl)) (ees_cons (ee_1 (Evl.ev_var rfl)) ees_nil)))))))) (by simp)) fun p1 v1 H1 e1 h1 r1 => ?_)
    refine s_seq (s_asgE (eel_cat (Evl.ev_var rfl) h1 r1 (eel_lst (ees_cons (ee_1 (Evl.ev_var rfl)) (ees_cons ee_0 (ees_cons (ee_1 (Evl.ev_var rfl)) (ees_cons (ee_1 (Evl.ev_var rfl)) (ees_cons (ee_1 (Evl.ev_var rfl)) (ees_cons (ee_2 (Evl.ev_var rfl) (Evl.ev_var rfl)) (ees_cons (ee_2 (Evl.ev_var rfl) (Evl.ev_var rfl)) (ees_cons (ee_1 (Evl.ev_var rfl)) ees_nil)))))))) (by simp)) (by simp)) fun p2 v2 H2 e2 h2 r2 => ?_)
    refine s_retE (eel_cat (Evl.ev_var rfl) h2 r2 (eel_lst (ees_cons (ee_1 (Evl.ev_var rfl)) (ees_cons (ee_1 (Evl.ev_var rfl)) (ees_cons (ee_2 (Evl.ev_var rfl) (Evl.ev_var rfl)) (ees_cons ee_0 (ees_cons (ee_2 (Evl.ev_var rfl) (Evl.ev_var rfl)) ees_nil))))) (by simp)) (by simp)) fun p3 v3 H3 e3 h3 r3 => ?_
    exact k _ _ _ ((e1.trans e2).trans e3) h3 r3
end
end K01

set_option maxHeartbeats 4000000
namespace K01
open PySem PySem.Spec PyProof.Rows L2 Tx
open Evl (Ex)
section
variable {P : Program} {w : World} {K : PySem.W.Frag} {mg : Str → Option Value} {base : Heap} {f : Addr} {fd : FuncData}
theorem sc_by_name : FnScope ["_law_a", "_law_b", "_law_some"] ["_law_a", "_law_b"] (defScope s__law_by_name) := ⟨rfl, rfl, rfl, by decide +kernel, rfl, by decide +kernel, by decide +kernel⟩
theorem ok_by_name (T : TC P w K mg base) (F : Fun K "_law_by_name" "_law_by_name" s__law_by_name f fd) : FnOk P w K mg base CX0 3 f fd ["_law_a", "_law_b"] (spBy K) := by
  obtain ⟨I_BadSystem, D_BadSystem, J_BadSystem, B_BadSystem, N_BadSystem⟩ := T.c_BadSystem.i
  obtain ⟨I_BadCut, D_BadCut, J_BadCut, B_BadCut, N_BadCut⟩ := T.c_BadCut.i
  obtain ⟨I_BadKey, D_BadKey, J_BadKey, B_BadKey, N_BadKey⟩ := T.c_BadKey.i
  obtain ⟨I_BadPlace, D_BadPlace, J_BadPlace, B_BadPlace, N_BadPlace⟩ := T.c_BadPlace.i
  obtain ⟨I_BadName, D_BadName, J_BadName, B_BadName, N_BadName⟩ := T.c_BadName.i
  obtain ⟨I_BadRule, D_BadRule, J_BadRule, B_BadRule, N_BadRule⟩ := T.c_BadRule.i
  obtain ⟨I_BadKind, D_BadKind, J_BadKind, B_BadKind, N_BadKind⟩ := T.c_BadKind.i
  obtain ⟨I_BadLengths, D_BadLengths, J_BadLengths, B_BadLengths, N_BadLengths⟩ := T.c_BadLengths.i
  obtain ⟨I_BadCount, D_BadCount, J_BadCount, B_BadCount, N_BadCount⟩ := T.c_BadCount.i
  obtain ⟨I_Outside, D_Outside, J_Outside, B_Outside, N_Outside⟩ := T.c_Outside.i
  obtain ⟨I_Clash, D_Clash, J_Clash, B_Clash, N_Clash⟩ := T.c_Clash.i
  obtain ⟨I_Crosses, D_Crosses, J_Crosses, B_Crosses, N_Crosses⟩ := T.c_Crosses.i
  obtain ⟨I_Opens, D_Opens, J_Opens, B_Opens, N_Opens⟩ := T.c_Opens.i
  obtain ⟨I_NotSafe, D_NotSafe, J_NotSafe, B_NotSafe, N_NotSafe⟩ := T.c_NotSafe.i
  obtain ⟨I_NoDoor, D_NoDoor, J_NoDoor, B_NoDoor, N_NoDoor⟩ := T.c_NoDoor.i
  obtain ⟨I_NoRule, D_NoRule, J_NoRule, B_NoRule, N_NoRule⟩ := T.c_NoRule.i
  obtain ⟨I_NoKey, D_NoKey, J_NoKey, B_NoKey, N_NoKey⟩ := T.c_NoKey.i
  obtain ⟨I_TooMany, D_TooMany, J_TooMany, B_TooMany, N_TooMany⟩ := T.c_TooMany.i
  obtain ⟨I_BadText, D_BadText, J_BadText, B_BadText, N_BadText⟩ := T.c_BadText.i
  refine F.ok sc_by_name (fun vs H Q E h => ?_) (fun cdv A outer s H vs Q E hr h => ?_)
  · obtain ⟨a, b, rfl, _⟩ := h
    rfl
  · refine ⟨_, (pss_cons (ps_set (i := 2) sc_by_name.nd rfl (Or.inl rfl) (pe_lst (pa_cons (pe_k1 T.c_BadSystem.c J_BadSystem N_BadSystem hr (by rfl) (pv 0))
        (pa_cons (pe_k1 T.c_BadCut.c J_BadCut N_BadCut hr (by rfl) (pv 0))
        (pa_cons (pe_k1 T.c_BadKey.c J_BadKey N_BadKey hr (by rfl) (pv 0))
        (pa_cons (pe_k1 T.c_BadPlace.c J_BadPlace N_BadPlace hr (by rfl) (pv 0))
        (pa_cons (pe_k1 T.c_BadName.c J_BadName N_BadName hr (by rfl) (pv 0))
        (pa_cons (pe_k1 T.c_BadRule.c J_BadRule N_BadRule hr (by rfl) (pv 0))
        pa_nil))))))))
      (pss_cons (ps_set (i := 2) sc_by_name.nd rfl (Or.inl rfl) (pe_op op_cat (pv 2) (pe_lst (pa_cons (pe_k1 T.c_BadKind.c J_BadKind N_BadKind hr (by rfl) (pv 0))
        (pa_cons (pe_k1 T.c_BadLengths.c J_BadLengths N_BadLengths hr (by rfl) (pv 0))
        (pa_cons (pe_k1 T.c_BadCount.c J_BadCount N_BadCount hr (by rfl) (pv 0))
        (pa_cons (pe_mkV0 T.c_Unlike.e T.c_Unlike.c.ox.kC (by rfl) T.c_Unlike.c.g)
        (pa_cons (pe_k1 T.c_Outside.c J_Outside N_Outside hr (by rfl) (pv 0))
        (pa_cons (pe_k1 T.c_Clash.c J_Clash N_Clash hr (by rfl) (pv 0))
        pa_nil)))))))))
      (pss_cons (ps_set (i := 2) sc_by_name.nd rfl (Or.inl rfl) (pe_op op_cat (pv 2) (pe_lst (pa_cons (pe_k1 T.c_Crosses.c J_Crosses N_Crosses hr (by rfl) (pv 0))
        (pa_cons (pe_k2 T.c_Opens.c J_Opens N_Opens hr (by rfl) (pv 1) (pv 0))
        (pa_cons (pe_k2 T.c_NotSafe.c J_NotSafe N_NotSafe hr (by rfl) (pv 1) (pv 0))
        (pa_cons (pe_k1 T.c_NoDoor.c J_NoDoor N_NoDoor hr (by rfl) (pv 0))
        (pa_cons (pe_k1 T.c_NoRule.c J_NoRule N_NoRule hr (by rfl) (pv 0))
        pa_nil))))))))
      (pss_one (ps_ret (pe_op op_cat (pv 2) (pe_lst (pa_cons (pe_k1 T.c_NoKey.c J_NoKey N_NoKey hr (by rfl) (pv 0))
        (pa_cons (pe_k2 T.c_TooMany.c J_TooMany N_TooMany hr (by rfl) (pv 1) (pv 0))
        (pa_cons (pe_mkV0 T.c_Nothing.e T.c_Nothing.c.ox.kC (by rfl) T.c_Nothing.c.g)
        (pa_cons (pe_k2 T.c_BadText.c J_BadText N_BadText hr (by rfl) (pv 1) (pv 0))
        pa_nil))))))))))), ?_⟩
    obtain ⟨a, b, rfl, k⟩ := h
    refine q_asgE (eel_lst (ees_cons (ee_1K (Evl.ev_var rfl)) (ees_cons (ee_1K (Evl.ev_var rfl)) (ees_cons (ee_1K (Evl.ev_var rfl)) (ees_cons (ee_1K (Evl.ev_var rfl)) (ees_cons (ee_1K (Evl.ev_var rfl)) (ees_cons (ee_1K (Evl.ev_var rfl)) ees_nil)))))) (by simp)) fun p1 v1 H1 e1 h1 r1 => ?_
    refine q_asgE (eel_cat (Evl.ev_var rfl) h1 r1 (eel_lst (ees_cons (ee_1K (Evl.ev_var rfl)) (ees_cons (ee_1K (Evl.ev_var rfl)) (ees_cons (ee_1K (Evl.ev_var rfl)) (ees_cons ee_0 (ees_cons (ee_1K (Evl.ev_var rfl)) (ees_cons (ee_1K (Evl.ev_var rfl)) ees_nil)))))) (by simp)) (by simp)) fun p2 v2 H2 e2 h2 r2 => ?_
    have r2 : ErrAll H2 v2 [(He.ga K "BadSystem", [("part", a)]), (He.ga K "BadCut", [("value", a)]), (He.ga K "BadKey", [("value", a)]), (He.ga K "BadPlace", [("value", a)]), (He.ga K "BadName", [("value", a)]), (He.ga K "BadRule", [("part", a)]), (He.ga K "BadKind", [("part", a)]), (He.ga K "BadLengths", [("part", a)]), (He.ga K "BadCount", [("value", a)]), (He.ga K "Unlike", []), (He.ga K "Outside", [("key", a)]), (He.ga K "Clash", [("place", a)])] := r2
    refine q_asgE (eel_cat (Evl.ev_var rfl) h2 r2 (eel_lst (ees_cons (ee_1K (Evl.ev_var rfl)) (ees_cons (ee_2K (Evl.ev_var rfl) (Evl.ev_var rfl)) (ees_cons (ee_2K (Evl.ev_var rfl) (Evl.ev_var rfl)) (ees_cons (ee_1K (Evl.ev_var rfl)) (ees_cons (ee_1K (Evl.ev_var rfl)) ees_nil))))) (by simp)) (by simp)) fun p3 v3 H3 e3 h3 r3 => ?_
    have r3 : ErrAll H3 v3 [(He.ga K "BadSystem", [("part", a)]), (He.ga K "BadCut", [("value", a)]), (He.ga K "BadKey", [("value", a)]), (He.ga K "BadPlace", [("value", a)]), (He.ga K "BadName", [("value", a)]), (He.ga K "BadRule", [("part", a)]), (He.ga K "BadKind", [("part", a)]), (He.ga K "BadLengths", [("part", a)]), (He.ga K "BadCount", [("value", a)]), (He.ga K "Unlike", []), (He.ga K "Outside", [("key", a)]), (He.ga K "Clash", [("place", a)]), (He.ga K "Crosses", [("name", a)]), (He.ga K "Opens", [("other", b), ("key", a)]), (He.ga K "NotSafe", [("other", b), ("key", a)]), (He.ga K "NoDoor", [("name", a)]), (He.ga K "NoRule", [("name", a)])] := r3
    refine s_retE (eel_cat (Evl.ev_var rfl) h3 r3 (eel_lst (ees_cons (ee_1K (Evl.ev_var rfl)) (ees_cons (ee_2K (Evl.ev_var rfl) (Evl.ev_var rfl)) (ees_cons ee_0 (ees_cons (ee_2K (Evl.ev_var rfl) (Evl.ev_var rfl)) ees_nil)))) (by simp)) (by simp)) fun p4 v4 H4 e4 h4 r4 => ?_
    exact k _ _ _ (((e1.trans e2).trans e3).trans e4) h4 r4
end
end K01

set_option maxHeartbeats 4000000
namespace K01
open PySem PySem.Spec PyProof.Rows L2 Tx
open Evl (Ex)
/-- _law_marks(e): e is an error of its own class alone -/
def spMarks (K : PySem.W.Frag) : Sp := fun vs H Q _ => ∃ (a : Addr) (n : Str) (fs : List (Str × V)), vs = [.ref a] ∧ n ∈ errs ∧ Err H a (He.ga K n) fs ∧
  ∀ (p : Addr) (H' : Hp), Ex H H' → H p = none → H' p = some (.lst ((errs.map fun d => n == d).map V.bl)) → Q (.ref p) H'
section
variable {P : Program} {w : World} {K : PySem.W.Frag} {mg : Str → Option Value} {base : Heap} {f : Addr} {fd : FuncData} {σ : L2.St} {H : Hp} {te : TE}
theorem ev_isD {a : Addr} {n d : Str} {fs : List (Str × V)} (T : TC P w K mg base) (hn : n ∈ errs) (hd : d ∈ errs) (he : Err H a (He.ga K n) fs) (h : Evl.Ev te σ H (.ref a)) :
    Evl.Ev (tCB (rIsErr K) (tCons te (tCons (tC (.ref (He.ga K d))) tNil))) σ H (.bl (n == d)) := fun H1 e Q q =>
  h H1 e _ fun H2 e2 => ⟨a, _, fs, _, _, _, rfl, he.mono (e.trans e2), T.ex n hn, fun u r => r, T.isD n hn d hd, q H2 e2⟩
/-- xs + [..] -/
theorem el_cat {tb : TE} {l : Addr} {xs ys : List V} (hx : Evl.Ev te σ H (.ref l)) (hl : H l = some (.lst xs)) (hb : Evl.EvL tb σ H ys) (hz : xs.length + ys.length ≤ 1000) : Evl.EvL (tOp rCat te tb) σ H (xs ++ ys) := fun H1 e Q q =>
  hx H1 e _ fun H2 e2 => hb H2 (e.trans e2) _ fun p H3 np e3 hp => ⟨l, p, xs, ys, rfl, rfl, ((e.trans e2).trans e3) _ _ hl, hp, Evl.sz_of (Nat.le_trans hz (by decide)),
    fun p' np' => q p' _ (Evl.fresh_back (e2.trans e3) np') ((e2.trans e3).trans (Ex.new np')) upd_same⟩
theorem sc_marks : FnScope ["_law_caught", "_law_some"] ["_law_caught"] (defScope s__law_marks) := ⟨rfl, rfl, rfl, by decide +kernel, rfl, by decide +kernel, by decide +kernel⟩
theorem ok_marks (T : TC P w K mg base) (F : Fun K "_law_marks" "_law_marks" s__law_marks f fd) : FnOk P w K mg base CX0 1 f fd ["_law_caught"] (spMarks K) := by
  refine F.ok sc_marks (fun vs H Q E h => ?_) (fun cdv A outer s H vs Q E hr h => ?_)
  · obtain ⟨a, n, fs, rfl, _⟩ := h
    rfl
  · refine ⟨_, (pss_cons (ps_set (i := 1) sc_marks.nd rfl (Or.inl rfl) (pe_lst (pa_cons (pe_callB call_isErr (by rfl) T.tb.b_isinstance (by decide +kernel) (pa_cons (pv 0) (pa_cons (pe_glob (v := V.ref (He.ga K "BadSystem")) rfl T.c_BadSystem.c.g rfl) pa_nil))) (pa_cons (pe_callB call_isErr (by rfl) T.tb.b_isinstance (by decide +kernel) (pa_cons (pv 0) (pa_cons (pe_glob (v := V.ref (He.ga K "BadCut")) rfl T.c_BadCut.c.g rfl) pa_nil))) (pa_cons (pe_callB call_isErr (by rfl) T.tb.b_isinstance (by decide +kernel) (pa_cons (pv 0) (pa_cons (pe_glob (v := V.ref (He.ga K "BadKey")) rfl T.c_BadKey.c.g rfl) pa_nil))) pa_nil)))))
      (pss_cons (ps_set (i := 1) sc_marks.nd rfl (Or.inl rfl) (pe_op op_cat (pv 1) (pe_lst (pa_cons (pe_callB call_isErr (by rfl) T.tb.b_isinstance (by decide +kernel) (pa_cons (pv 0) (pa_cons (pe_glob (v := V.ref (He.ga K "BadPlace")) rfl T.c_BadPlace.c.g rfl) pa_nil))) (pa_cons (pe_callB call_isErr (by rfl) T.tb.b_isinstance (by decide +kernel) (pa_cons (pv 0) (pa_cons (pe_glob (v := V.ref (He.ga K "BadName")) rfl T.c_BadName.c.g rfl) pa_nil))) (pa_cons (pe_callB call_isErr (by rfl) T.tb.b_isinstance (by decide +kernel) (pa_cons (pv 0) (pa_cons (pe_glob (v := V.ref (He.ga K "BadRule")) rfl T.c_BadRule.c.g rfl) pa_nil))) pa_nil))))))
      (pss_cons (ps_set (i := 1) sc_marks.nd rfl (Or.inl rfl) (pe_op op_cat (pv 1) (pe_lst (pa_cons (pe_callB call_isErr (by rfl) T.tb.b_isinstance (by decide +kernel) (pa_cons (pv 0) (pa_cons (pe_glob (v := V.ref (He.ga K "BadKind")) rfl T.c_BadKind.c.g rfl) pa_nil))) (pa_cons (pe_callB call_isErr (by rfl) T.tb.b_isinstance (by decide +kernel) (pa_cons (pv 0) (pa_cons (pe_glob (v := V.ref (He.ga K "BadLengths")) rfl T.c_BadLengths.c.g rfl) pa_nil))) (pa_cons (pe_callB call_isErr (by rfl) T.tb.b_isinstance (by decide +kernel) (pa_cons (pv 0) (pa_cons (pe_glob (v := V.ref (He.ga K "BadCount")) rfl T.c_BadCount.c.g rfl) pa_nil))) pa_nil))))))
      (pss_cons (ps_set (i := 1) sc_marks.nd rfl (Or.inl rfl) (pe_op op_cat (pv 1) (pe_lst (pa_cons (pe_callB call_isErr (by rfl) T.tb.b_isinstance (by decide +kernel) (pa_cons (pv 0) (pa_cons (pe_glob (v := V.ref (He.ga K "Unlike")) rfl T.c_Unlike.c.g rfl) pa_nil))) (pa_cons (pe_callB call_isErr (by rfl) T.tb.b_isinstance (by decide +kernel) (pa_cons (pv 0) (pa_cons (pe_glob (v := V.ref (He.ga K "Outside")) rfl T.c_Outside.c.g rfl) pa_nil))) (pa_cons (pe_callB call_isErr (by rfl) T.tb.b_isinstance (by decide +kernel) (pa_cons (pv 0) (pa_cons (pe_glob (v := V.ref (He.ga K "Clash")) rfl T.c_Clash.c.g rfl) pa_nil))) pa_nil))))))
      (pss_cons (ps_set (i := 1) sc_marks.nd rfl (Or.inl rfl) (pe_op op_cat (pv 1) (pe_lst (pa_cons (pe_callB call_isErr (by rfl) T.tb.b_isinstance (by decide +kernel) (pa_cons (pv 0) (pa_cons (pe_glob (v := V.ref (He.ga K "Crosses")) rfl T.c_Crosses.c.g rfl) pa_nil))) (pa_cons (pe_callB call_isErr (by rfl) T.tb.b_isinstance (by decide +kernel) (pa_cons (pv 0) (pa_cons (pe_glob (v := V.ref (He.ga K "Opens")) rfl T.c_Opens.c.g rfl) pa_nil))) (pa_cons (pe_callB call_isErr (by rfl) T.tb.b_isinstance (by decide +kernel) (pa_cons (pv 0) (pa_cons (pe_glob (v := V.ref (He.ga K "NotSafe")) rfl T.c_NotSafe.c.g rfl) pa_nil))) pa_nil))))))
      (pss_cons (ps_set (i := 1) sc_marks.nd rfl (Or.inl rfl) (pe_op op_cat (pv 1) (pe_lst (pa_cons (pe_callB call_isErr (by rfl) T.tb.b_isinstance (by decide +kernel) (pa_cons (pv 0) (pa_cons (pe_glob (v := V.ref (He.ga K "NoDoor")) rfl T.c_NoDoor.c.g rfl) pa_nil))) (pa_cons (pe_callB call_isErr (by rfl) T.tb.b_isinstance (by decide +kernel) (pa_cons (pv 0) (pa_cons (pe_glob (v := V.ref (He.ga K "NoRule")) rfl T.c_NoRule.c.g rfl) pa_nil))) (pa_cons (pe_callB call_isErr (by rfl) T.tb.b_isinstance (by decide +kernel) (pa_cons (pv 0) (pa_cons (pe_glob (v := V.ref (He.ga K "NoKey")) rfl T.c_NoKey.c.g rfl) pa_nil))) pa_nil))))))
      (pss_one (ps_ret (pe_op op_cat (pv 1) (pe_lst (pa_cons (pe_callB call_isErr (by rfl) T.tb.b_isinstance (by decide +kernel) (pa_cons (pv 0) (pa_cons (pe_glob (v := V.ref (He.ga K "TooMany")) rfl T.c_TooMany.c.g rfl) pa_nil))) (pa_cons (pe_callB call_isErr (by rfl) T.tb.b_isinstance (by decide +kernel) (pa_cons (pv 0) (pa_cons (pe_glob (v := V.ref (He.ga K "Nothing")) rfl T.c_Nothing.c.g rfl) pa_nil))) (pa_cons (pe_callB call_isErr (by rfl) T.tb.b_isinstance (by decide +kernel) (pa_cons (pv 0) (pa_cons (pe_glob (v := V.ref (He.ga K "BadText")) rfl T.c_BadText.c.g rfl) pa_nil))) pa_nil))))))))))))), ?_⟩
    obtain ⟨a, n, fs, rfl, hn, er, k⟩ := h
    refine q_asgL (xs := [.bl (n == "BadSystem"), .bl (n == "BadCut"), .bl (n == "BadKey")]) (Evl.el_lst (Evl.ea_cons (ev_isD T hn (d := "BadSystem") (by decide) er (Evl.ev_var rfl)) (Evl.ea_cons (ev_isD T hn (d := "BadCut") (by decide) er (Evl.ev_var rfl)) (Evl.ea_cons (ev_isD T hn (d := "BadKey") (by decide) er (Evl.ev_var rfl)) Evl.ea_nil))) (by simp)) fun p1 H1 e1 n1 h1 => ?_
    have r1 := er.mono e1
    refine q_asgL (xs := [.bl (n == "BadSystem"), .bl (n == "BadCut"), .bl (n == "BadKey"), .bl (n == "BadPlace"), .bl (n == "BadName"), .bl (n == "BadRule")]) (el_cat (Evl.ev_var rfl) h1 (Evl.el_lst (Evl.ea_cons (ev_isD T hn (d := "BadPlace") (by decide) r1 (Evl.ev_var rfl)) (Evl.ea_cons (ev_isD T hn (d := "BadName") (by decide) r1 (Evl.ev_var rfl)) (Evl.ea_cons (ev_isD T hn (d := "BadRule") (by decide) r1 (Evl.ev_var rfl)) Evl.ea_nil))) (by simp)) (by simp)) fun p2 H2 e2 n2 h2 => ?_
    have x2 := e1.trans e2
    have r2 := er.mono x2
    refine q_asgL (xs := [.bl (n == "BadSystem"), .bl (n == "BadCut"), .bl (n == "BadKey"), .bl (n == "BadPlace"), .bl (n == "BadName"), .bl (n == "BadRule"), .bl (n == "BadKind"), .bl (n == "BadLengths"), .bl (n == "BadCount")]) (el_cat (Evl.ev_var rfl) h2 (Evl.el_lst (Evl.ea_cons (ev_isD T hn (d := "BadKind") (by decide) r2 (Evl.ev_var rfl)) (Evl.ea_cons (ev_isD T hn (d := "BadLengths") (by decide) r2 (Evl.ev_var rfl)) (Evl.ea_cons (ev_isD T hn (d := "BadCount") (by decide) r2 (Evl.ev_var rfl)) Evl.ea_nil))) (by simp)) (by simp)) fun p3 H3 e3 n3 h3 => ?_
    have x3 := x2.trans e3
    have r3 := er.mono x3
    refine q_asgL (xs := [.bl (n == "BadSystem"), .bl (n == "BadCut"), .bl (n == "BadKey"), .bl (n == "BadPlace"), .bl (n == "BadName"), .bl (n == "BadRule"), .bl (n == "BadKind"), .bl (n == "BadLengths"), .bl (n == "BadCount"), .bl (n == "Unlike"), .bl (n == "Outside"), .bl (n == "Clash")]) (el_cat (Evl.ev_var rfl) h3 (Evl.el_lst (Evl.ea_cons (ev_isD T hn (d := "Unlike") (by decide) r3 (Evl.ev_var rfl)) (Evl.ea_cons (ev_isD T hn (d := "Outside") (by decide) r3 (Evl.ev_var rfl)) (Evl.ea_cons (ev_isD T hn (d := "Clash") (by decide) r3 (Evl.ev_var rfl)) Evl.ea_nil))) (by simp)) (by simp)) fun p4 H4 e4 n4 h4 => ?_
    have x4 := x3.trans e4
    have r4 := er.mono x4
    refine q_asgL (xs := [.bl (n == "BadSystem"), .bl (n == "BadCut"), .bl (n == "BadKey"), .bl (n == "BadPlace"), .bl (n == "BadName"), .bl (n == "BadRule"), .bl (n == "BadKind"), .bl (n == "BadLengths"), .bl (n == "BadCount"), .bl (n == "Unlike"), .bl (n == "Outside"), .bl (n == "Clash"), .bl (n == "Crosses"), .bl (n == "Opens"), .bl (n == "NotSafe")]) (el_cat (Evl.ev_var rfl) h4 (Evl.el_lst (Evl.ea_cons (ev_isD T hn (d := "Crosses") (by decide) r4 (Evl.ev_var rfl)) (Evl.ea_cons (ev_isD T hn (d := "Opens") (by decide) r4 (Evl.ev_var rfl)) (Evl.ea_cons (ev_isD T hn (d := "NotSafe") (by decide) r4 (Evl.ev_var rfl)) Evl.ea_nil))) (by simp)) (by simp)) fun p5 H5 e5 n5 h5 => ?_
    have x5 := x4.trans e5
    have r5 := er.mono x5
    refine q_asgL (xs := [.bl (n == "BadSystem"), .bl (n == "BadCut"), .bl (n == "BadKey"), .bl (n == "BadPlace"), .bl (n == "BadName"), .bl (n == "BadRule"), .bl (n == "BadKind"), .bl (n == "BadLengths"), .bl (n == "BadCount"), .bl (n == "Unlike"), .bl (n == "Outside"), .bl (n == "Clash"), .bl (n == "Crosses"), .bl (n == "Opens"), .bl (n == "NotSafe"), .bl (n == "NoDoor"), .bl (n == "NoRule"), .bl (n == "NoKey")]) (el_cat (Evl.ev_var rfl) h5 (Evl.el_lst (Evl.ea_cons (ev_isD T hn (d := "NoDoor") (by decide) r5 (Evl.ev_var rfl)) (Evl.ea_cons (ev_isD T hn (d := "NoRule") (by decide) r5 (Evl.ev_var rfl)) (Evl.ea_cons (ev_isD T hn (d := "NoKey") (by decide) r5 (Evl.ev_var rfl)) Evl.ea_nil))) (by simp)) (by simp)) fun p6 H6 e6 n6 h6 => ?_
    have x6 := x5.trans e6
    have r6 := er.mono x6
    refine Evl.s_retL (xs := [.bl (n == "BadSystem"), .bl (n == "BadCut"), .bl (n == "BadKey"), .bl (n == "BadPlace"), .bl (n == "BadName"), .bl (n == "BadRule"), .bl (n == "BadKind"), .bl (n == "BadLengths"), .bl (n == "BadCount"), .bl (n == "Unlike"), .bl (n == "Outside"), .bl (n == "Clash"), .bl (n == "Crosses"), .bl (n == "Opens"), .bl (n == "NotSafe"), .bl (n == "NoDoor"), .bl (n == "NoRule"), .bl (n == "NoKey"), .bl (n == "TooMany"), .bl (n == "Nothing"), .bl (n == "BadText")]) (el_cat (Evl.ev_var rfl) h6 (Evl.el_lst (Evl.ea_cons (ev_isD T hn (d := "TooMany") (by decide) r6 (Evl.ev_var rfl)) (Evl.ea_cons (ev_isD T hn (d := "Nothing") (by decide) r6 (Evl.ev_var rfl)) (Evl.ea_cons (ev_isD T hn (d := "BadText") (by decide) r6 (Evl.ev_var rfl)) Evl.ea_nil))) (by simp)) (by simp)) fun p7 H7 n7 e7 h7 => ?_
    exact k p7 H7 (x6.trans e7) (Evl.fresh_back x6 n7) h7
end
end K01

set_option maxHeartbeats 4000000
namespace K01
open PySem PySem.Spec PyProof.Rows L2 Tx
open Evl (Ex)
/-- the sign of a field -/
def signs : List (Str × Str) := [("p", "part"), ("v", "value"), ("k", "key"), ("o", "other"), ("c", "place"), ("n", "name"), ("l", "line"), ("w", "word"), ("h", "what"), ("m", "most")]
def spKept (K : PySem.W.Frag) : Sp := fun vs H Q _ => ∃ (a C : Addr) (fs : List (Str × V)) (s f : Str) (v : V), vs = [.ref a, .str s] ∧ (s, f) ∈ signs ∧ Err H a C fs ∧ ExcC K C ∧ PySem.W.findIn K (.ref C) f = some none ∧ fs.lookup f = some v ∧
  ∀ H', Ex H H' → Q v H'
section
variable {P : Program} {w : World} {K : PySem.W.Frag} {mg : Str → Option Value} {base : Heap} {f : Addr} {fd : FuncData} {σ : L2.St} {H : Hp} {te : TE}
theorem ev_errF {a C : Addr} {fs : List (Str × V)} {g : Str} {v : V} (h : Evl.Ev te σ H (.ref a)) (er : Err H a C fs) (ex : ExcC K C) (no : PySem.W.findIn K (.ref C) g = some none) (l : fs.lookup g = some v) : Evl.Ev (tErrF K te g) σ H v := fun H1 e Q q =>
  h H1 e _ fun H2 e2 => ⟨a, C, fs, v, rfl, er.mono (e.trans e2), ex, no, l, q H2 e2⟩
theorem et_sign {s t : Str} {b : Bool} {i : Nat} (hi : σ[i]? = some (some (.str s))) (hb : decide (V.str s = V.str t) = b) : Evl.EvT (tTest (tOp rEq (tVar i) (tC (.str t)))) σ H b := Evl.et_is (Evl.et_test (Evl.ev_op (Evl.ev_var hi) Evl.ev_c (Evl.rv_eq rfl))) hb
theorem sc_kept : FnScope ["_law_caught", "_law_sign"] ["_law_caught", "_law_sign"] (defScope s__law_kept) := ⟨rfl, rfl, rfl, by decide +kernel, rfl, by decide +kernel, by decide +kernel⟩
theorem ok_kept (F : Fun K "_law_kept" "_law_kept" s__law_kept f fd) : FnOk P w K mg base CX0 1 f fd ["_law_caught", "_law_sign"] (spKept K) := by
  refine F.ok sc_kept (fun vs H Q E h => ?_) (fun cdv A outer s H vs Q E hr h => ?_)
  · obtain ⟨a, C, fs, s, g, v, rfl, _⟩ := h
    rfl
  · refine ⟨_, (pss_cons (ps_if (pt_cmpR op_eq (pv 1) pe_str (nomark _)) (pss_one (ps_ret (pe_errF (pv 0)))) pss_nil)
    (pss_cons (ps_if (pt_cmpR op_eq (pv 1) pe_str (nomark _)) (pss_one (ps_ret (pe_errF (pv 0)))) pss_nil)
    (pss_cons (ps_if (pt_cmpR op_eq (pv 1) pe_str (nomark _)) (pss_one (ps_ret (pe_errF (pv 0)))) pss_nil)
    (pss_cons (ps_if (pt_cmpR op_eq (pv 1) pe_str (nomark _)) (pss_one (ps_ret (pe_errF (pv 0)))) pss_nil)
    (pss_cons (ps_if (pt_cmpR op_eq (pv 1) pe_str (nomark _)) (pss_one (ps_ret (pe_errF (pv 0)))) pss_nil)
    (pss_cons (ps_if (pt_cmpR op_eq (pv 1) pe_str (nomark _)) (pss_one (ps_ret (pe_errF (pv 0)))) pss_nil)
    (pss_cons (ps_if (pt_cmpR op_eq (pv 1) pe_str (nomark _)) (pss_one (ps_ret (pe_errF (pv 0)))) pss_nil)
    (pss_cons (ps_if (pt_cmpR op_eq (pv 1) pe_str (nomark _)) (pss_one (ps_ret (pe_errF (pv 0)))) pss_nil)
    (pss_one (ps_ret (pe_ifExp (pt_cmpR op_eq (pv 1) pe_str (nomark _)) (pe_errF (pv 0)) (pe_errF (pv 0))))))))))))), ?_⟩
    obtain ⟨a, C, fs, s, g, v, rfl, hm, er, ex, no, l, k⟩ := h
    simp only [signs, List.mem_cons, Prod.mk.injEq, List.not_mem_nil, or_false] at hm
    rcases hm with ⟨rfl, rfl⟩ | ⟨rfl, rfl⟩ | ⟨rfl, rfl⟩ | ⟨rfl, rfl⟩ | ⟨rfl, rfl⟩ | ⟨rfl, rfl⟩ | ⟨rfl, rfl⟩ | ⟨rfl, rfl⟩ | ⟨rfl, rfl⟩ | ⟨rfl, rfl⟩
    · refine Evl.q_when (b := true) (et_sign rfl (by decide)) (fun _ H9 e9 => ?_) (fun z => by cases z)
      exact Evl.s_ret (ev_errF (Evl.ev_var rfl) (er.mono ((Ex.refl H).trans e9)) ex no l) fun H8 e8 => k H8 (((Ex.refl H).trans e9).trans e8)
    · refine Evl.q_when (b := false) (et_sign rfl (by decide)) (fun z => by cases z) (fun _ H1 e1 => ?_)
      refine Evl.q_when (b := true) (et_sign rfl (by decide)) (fun _ H9 e9 => ?_) (fun z => by cases z)
      exact Evl.s_ret (ev_errF (Evl.ev_var rfl) (er.mono (e1.trans e9)) ex no l) fun H8 e8 => k H8 ((e1.trans e9).trans e8)
    · refine Evl.q_when (b := false) (et_sign rfl (by decide)) (fun z => by cases z) (fun _ H1 e1 => ?_)
      refine Evl.q_when (b := false) (et_sign rfl (by decide)) (fun z => by cases z) (fun _ H2 e2 => ?_)
      refine Evl.q_when (b := true) (et_sign rfl (by decide)) (fun _ H9 e9 => ?_) (fun z => by cases z)
      exact Evl.s_ret (ev_errF (Evl.ev_var rfl) (er.mono ((e1.trans e2).trans e9)) ex no l) fun H8 e8 => k H8 (((e1.trans e2).trans e9).trans e8)
    · refine Evl.q_when (b := false) (et_sign rfl (by decide)) (fun z => by cases z) (fun _ H1 e1 => ?_)
      refine Evl.q_when (b := false) (et_sign rfl (by decide)) (fun z => by cases z) (fun _ H2 e2 => ?_)
      refine Evl.q_when (b := false) (et_sign rfl (by decide)) (fun z => by cases z) (fun _ H3 e3 => ?_)
      refine Evl.q_when (b := true) (et_sign rfl (by decide)) (fun _ H9 e9 => ?_) (fun z => by cases z)
      exact Evl.s_ret (ev_errF (Evl.ev_var rfl) (er.mono (((e1.trans e2).trans e3).trans e9)) ex no l) fun H8 e8 => k H8 ((((e1.trans e2).trans e3).trans e9).trans e8)
    · refine Evl.q_when (b := false) (et_sign rfl (by decide)) (fun z => by cases z) (fun _ H1 e1 => ?_)
      refine Evl.q_when (b := false) (et_sign rfl (by decide)) (fun z => by cases z) (fun _ H2 e2 => ?_)
      refine Evl.q_when (b := false) (et_sign rfl (by decide)) (fun z => by cases z) (fun _ H3 e3 => ?_)
      refine Evl.q_when (b := false) (et_sign rfl (by decide)) (fun z => by cases z) (fun _ H4 e4 => ?_)
      refine Evl.q_when (b := true) (et_sign rfl (by decide)) (fun _ H9 e9 => ?_) (fun z => by cases z)
      exact Evl.s_ret (ev_errF (Evl.ev_var rfl) (er.mono ((((e1.trans e2).trans e3).trans e4).trans e9)) ex no l) fun H8 e8 => k H8 (((((e1.trans e2).trans e3).trans e4).trans e9).trans e8)
    · refine Evl.q_when (b := false) (et_sign rfl (by decide)) (fun z => by cases z) (fun _ H1 e1 => ?_)
      refine Evl.q_when (b := false) (et_sign rfl (by decide)) (fun z => by cases z) (fun _ H2 e2 => ?_)
      refine Evl.q_when (b := false) (et_sign rfl (by decide)) (fun z => by cases z) (fun _ H3 e3 => ?_)
      refine Evl.q_when (b := false) (et_sign rfl (by decide)) (fun z => by cases z) (fun _ H4 e4 => ?_)
      refine Evl.q_when (b := false) (et_sign rfl (by decide)) (fun z => by cases z) (fun _ H5 e5 => ?_)
      refine Evl.q_when (b := true) (et_sign rfl (by decide)) (fun _ H9 e9 => ?_) (fun z => by cases z)
      exact Evl.s_ret (ev_errF (Evl.ev_var rfl) (er.mono (((((e1.trans e2).trans e3).trans e4).trans e5).trans e9)) ex no l) fun H8 e8 => k H8 ((((((e1.trans e2).trans e3).trans e4).trans e5).trans e9).trans e8)
    · refine Evl.q_when (b := false) (et_sign rfl (by decide)) (fun z => by cases z) (fun _ H1 e1 => ?_)
      refine Evl.q_when (b := false) (et_sign rfl (by decide)) (fun z => by cases z) (fun _ H2 e2 => ?_)
      refine Evl.q_when (b := false) (et_sign rfl (by decide)) (fun z => by cases z) (fun _ H3 e3 => ?_)
      refine Evl.q_when (b := false) (et_sign rfl (by decide)) (fun z => by cases z) (fun _ H4 e4 => ?_)
      refine Evl.q_when (b := false) (et_sign rfl (by decide)) (fun z => by cases z) (fun _ H5 e5 => ?_)
      refine Evl.q_when (b := false) (et_sign rfl (by decide)) (fun z => by cases z) (fun _ H6 e6 => ?_)
      refine Evl.q_when (b := true) (et_sign rfl (by decide)) (fun _ H9 e9 => ?_) (fun z => by cases z)
      exact Evl.s_ret (ev_errF (Evl.ev_var rfl) (er.mono ((((((e1.trans e2).trans e3).trans e4).trans e5).trans e6).trans e9)) ex no l) fun H8 e8 => k H8 (((((((e1.trans e2).trans e3).trans e4).trans e5).trans e6).trans e9).trans e8)
    · refine Evl.q_when (b := false) (et_sign rfl (by decide)) (fun z => by cases z) (fun _ H1 e1 => ?_)
      refine Evl.q_when (b := false) (et_sign rfl (by decide)) (fun z => by cases z) (fun _ H2 e2 => ?_)
      refine Evl.q_when (b := false) (et_sign rfl (by decide)) (fun z => by cases z) (fun _ H3 e3 => ?_)
      refine Evl.q_when (b := false) (et_sign rfl (by decide)) (fun z => by cases z) (fun _ H4 e4 => ?_)
      refine Evl.q_when (b := false) (et_sign rfl (by decide)) (fun z => by cases z) (fun _ H5 e5 => ?_)
      refine Evl.q_when (b := false) (et_sign rfl (by decide)) (fun z => by cases z) (fun _ H6 e6 => ?_)
      refine Evl.q_when (b := false) (et_sign rfl (by decide)) (fun z => by cases z) (fun _ H7 e7 => ?_)
      refine Evl.q_when (b := true) (et_sign rfl (by decide)) (fun _ H9 e9 => ?_) (fun z => by cases z)
      exact Evl.s_ret (ev_errF (Evl.ev_var rfl) (er.mono (((((((e1.trans e2).trans e3).trans e4).trans e5).trans e6).trans e7).trans e9)) ex no l) fun H8 e8 => k H8 ((((((((e1.trans e2).trans e3).trans e4).trans e5).trans e6).trans e7).trans e9).trans e8)
    · refine Evl.q_when (b := false) (et_sign rfl (by decide)) (fun z => by cases z) (fun _ H1 e1 => ?_)
      refine Evl.q_when (b := false) (et_sign rfl (by decide)) (fun z => by cases z) (fun _ H2 e2 => ?_)
      refine Evl.q_when (b := false) (et_sign rfl (by decide)) (fun z => by cases z) (fun _ H3 e3 => ?_)
      refine Evl.q_when (b := false) (et_sign rfl (by decide)) (fun z => by cases z) (fun _ H4 e4 => ?_)
      refine Evl.q_when (b := false) (et_sign rfl (by decide)) (fun z => by cases z) (fun _ H5 e5 => ?_)
      refine Evl.q_when (b := false) (et_sign rfl (by decide)) (fun z => by cases z) (fun _ H6 e6 => ?_)
      refine Evl.q_when (b := false) (et_sign rfl (by decide)) (fun z => by cases z) (fun _ H7 e7 => ?_)
      refine Evl.q_when (b := false) (et_sign rfl (by decide)) (fun z => by cases z) (fun _ H8 e8 => ?_)
      exact Evl.s_ret (Evl.ev_if (b := true) (et_sign rfl (by decide)) (fun _ => ev_errF (Evl.ev_var rfl) (er.mono (((((((e1.trans e2).trans e3).trans e4).trans e5).trans e6).trans e7).trans e8)) ex no l) (fun z => by cases z)) fun H9 e9 => k H9 ((((((((e1.trans e2).trans e3).trans e4).trans e5).trans e6).trans e7).trans e8).trans e9)
    · refine Evl.q_when (b := false) (et_sign rfl (by decide)) (fun z => by cases z) (fun _ H1 e1 => ?_)
      refine Evl.q_when (b := false) (et_sign rfl (by decide)) (fun z => by cases z) (fun _ H2 e2 => ?_)
      refine Evl.q_when (b := false) (et_sign rfl (by decide)) (fun z => by cases z) (fun _ H3 e3 => ?_)
      refine Evl.q_when (b := false) (et_sign rfl (by decide)) (fun z => by cases z) (fun _ H4 e4 => ?_)
      refine Evl.q_when (b := false) (et_sign rfl (by decide)) (fun z => by cases z) (fun _ H5 e5 => ?_)
      refine Evl.q_when (b := false) (et_sign rfl (by decide)) (fun z => by cases z) (fun _ H6 e6 => ?_)
      refine Evl.q_when (b := false) (et_sign rfl (by decide)) (fun z => by cases z) (fun _ H7 e7 => ?_)
      refine Evl.q_when (b := false) (et_sign rfl (by decide)) (fun z => by cases z) (fun _ H8 e8 => ?_)
      exact Evl.s_ret (Evl.ev_if (b := false) (et_sign rfl (by decide)) (fun z => by cases z) (fun _ => ev_errF (Evl.ev_var rfl) (er.mono (((((((e1.trans e2).trans e3).trans e4).trans e5).trans e6).trans e7).trans e8)) ex no l)) fun H9 e9 => k H9 ((((((((e1.trans e2).trans e3).trans e4).trans e5).trans e6).trans e7).trans e8).trans e9)
/-! ### the signs' row, the pen, a pick -/
def row : List Str := ["p", "v", "v", "v", "v", "p", "p", "p", "v", "0", "k", "c", "n", "ko", "ko", "n", "n", "v", "hm", "0", "lw"]
def spSigns : Sp := fun vs H Q _ => vs = [] ∧ ∀ p, H p = none → Q (.ref p) (upd H p (.lst (row.map V.str)))
theorem sc_signs : FnScope [] [] (defScope s__law_signs) := ⟨rfl, rfl, rfl, by decide +kernel, rfl, by decide +kernel, by decide +kernel⟩
theorem row_eq : Txt.split "p v v v v p p p v 0 k c n ko ko n n v hm 0 lw" " " = row := by decide +kernel
theorem ok_signs (F : Fun K "_law_signs" "_law_signs" s__law_signs f fd) : FnOk P w K mg base CX0 1 f fd [] spSigns := by
  refine F.ok sc_signs (fun vs H Q E h => ?_) (fun cdv A outer s H vs Q E hr h => ⟨_, pss_one (ps_ret (pe_split pe_str pe_str)), ?_⟩)
  · obtain ⟨rfl, _⟩ := h
    rfl
  · obtain ⟨rfl, k⟩ := h
    refine ⟨⟨_, rfl⟩, _, _, rfl, rfl, by decide +kernel, Nat.le_trans (by decide +kernel : _ ≤ 1000) (by decide), fun p np => ?_⟩
    rw [row_eq]
    exact k p np
def spPen (K : PySem.W.Frag) : Sp := fun vs H Q _ => ∃ (a : Addr) (ns : List Int), vs = [.ref a] ∧ SqL K H a (ns.map V.int) ∧ ns.length ≤ 63 ∧ ∀ (p : Addr) (H' : Hp), Ex H H' → H p = none → Pen H' p 0 → Q (.ref p) H'
theorem cut63 (ns : List Int) (h : ns.length ≤ 63) : cutV (ns.map V.int) none (some 63) = ns.map V.int := by
  have e : HT.sIx (ns.map V.int).length (ns.map V.int).length (some 63) = min 63 (ns.map V.int).length := HT.sIx_nat _ _ 63
  unfold cutV
  rw [HT.sIx_none, e, List.length_map, Nat.min_eq_right h, List.drop_zero, Nat.sub_zero]
  exact List.take_of_length_le (by rw [List.length_map]; omega)
theorem sc_pen : FnScope ["_law_script"] ["_law_script"] (defScope s__law_pen) := ⟨rfl, rfl, rfl, by decide +kernel, rfl, by decide +kernel, by decide +kernel⟩
theorem ok_pen (T : TB mg) (F : Fun K "_law_pen" "_law_pen" s__law_pen f fd) : FnOk P w K mg base CX0 1 f fd ["_law_script"] (spPen K) := by
  refine F.ok sc_pen (fun vs H Q E h => ?_) (fun cdv A outer s H vs Q E hr h => ⟨_, (pss_one (ps_ret (pe_lst (pa_cons (pe_callTy call_list_of (by rfl) T.b_list (by decide +kernel) (pa_cons (pe_slice sl_list (pv 0) po_none (po_some pe_int)) pa_nil)) (pa_cons pe_int (pa_cons pe_int pa_nil)))))), ?_⟩)
  · obtain ⟨a, ns, rfl, _⟩ := h
    rfl
  · obtain ⟨a, ns, rfl, hs, hl, k⟩ := h
    refine ⟨_, rfl, _, rfl, a, _, rfl, hs, fun q nq => ?_⟩
    rw [cut63 ns hl]
    refine ⟨q, _, rfl, .inl (SqL.of upd_same), fun c nc => ⟨(by show 3 ≤ sizeLine; decide), fun p np => ?_⟩⟩
    have e1 : Ex H (upd H q (.lst (ns.map V.int))) := Ex.new nq
    have e2 : Ex H (upd (upd H q (.lst (ns.map V.int))) c (.lst (ns.map V.int))) := e1.trans (Ex.new nc)
    refine k p _ (e2.trans (Ex.new np)) (Evl.fresh_back e2 np) ⟨c, ns, 0, 0, upd_same, ?_, hl, Int.le_refl _, Int.le_refl _⟩
    rw [upd_ne (fun z => by rw [← z, upd_same] at np; cases np), upd_same]
def spPick : Sp := fun vs H Q _ => ∃ (p l : Addr) (n : Nat) (xs : List V), vs = [.ref p, .ref l] ∧ Pen H p n ∧ n ≤ 100000 ∧ H l = some (.lst xs) ∧ l ≠ p ∧ 0 < xs.length ∧ xs.length ≤ 1000 ∧
  ∀ (j : Nat) (x : V) (H' : Hp), xs[j]? = some x → Kept p H H' → Pen H' p (n + 1) → Q x H'
theorem sc_pick : FnScope ["_law_pen_here", "_law_some"] ["_law_pen_here", "_law_some"] (defScope s__law_pick) := ⟨rfl, rfl, rfl, by decide +kernel, rfl, by decide +kernel, by decide +kernel⟩
theorem log_small {x : Int} (h0 : 0 < x) (h : x ≤ 1000) : x.natAbs.log2 < 9000 := Nat.lt_of_lt_of_le (PySem.Flt.log2_lt_of (n := x.natAbs) (k := 10) (by decide) (by show x.natAbs < 1024; omega)) (by decide)
theorem ok_pick {fD : Addr} {dD : FuncData} (T : TB mg) (F : Fun K "_law_pick" "_law_pick" s__law_pick f fd) (FD : Fun K "_law_draw" "_law_draw" s__law_draw fD dD) (gD : mg "_law_draw" = some (.ref fD)) : FnOk P w K mg base CX0 2 f fd ["_law_pen_here", "_law_some"] spPick := by
  have GD : FnOk P w K mg base CX0 1 fD dD ["_law_pen_here", "_law_many"] spDraw := ok_draw T FD
  have bD : Binds K dD ["_law_pen_here", "_law_many"] [] := FD.binds fun _ _ _ _ _ _ us hl => match us, hl with | [_, _], _ => rfl
  refine F.ok sc_pick (fun vs H Q E h => ?_) (fun cdv A outer s H vs Q E hr h => ⟨_, (pss_one (ps_ret (pe_ix ix_list (pv 1) (pe_call GD hr rfl gD FD.kp bD .nil pass0 (pa_cons (pv 0) (pa_cons (pe_callB call_len (by rfl) T.b_len (by decide +kernel) (pa_cons (pv 1) pa_nil)) pa_nil))) (fun _ _ => rfl)))), ?_⟩)
  · obtain ⟨p, l, n, xs, rfl, _⟩ := h
    rfl
  · obtain ⟨p, l, n, xs, rfl, pen, hn, hl, ne, h0, h1, k⟩ := h
    refine ⟨_, rfl, _, rfl, _, rfl, _, _, rfl, .inl ⟨xs, SqL.of hl, rfl⟩, p, _, n, rfl, pen, hn, by omega, log_small (by omega) (by omega), fun r H' r0 r1 kp pen' => ?_⟩
    have hj : r.toNat < xs.length := by omega
    have ea : atI xs r = some xs[r.toNat] := by
      have z := atI_nat (List.getElem?_eq_getElem hj)
      rw [Int.toNat_of_nonneg r0] at z
      exact z
    exact ⟨l, xs, r, _, rfl, rfl, SqL.of (kp l _ ne hl), ea, k r.toNat _ H' (List.getElem?_eq_getElem hj) kp pen'⟩
end
end K01

set_option maxHeartbeats 4000000
namespace Tx
open PySem PySem.Spec PyProof.Rows L2
open Evl (Ex)
section
variable {K : PySem.W.Frag} {H H' : Hp}
mutual
theorem Dr.mono (e : Ex H H') : ∀ {v : V} {d : PyData}, Dr K H v d → Dr K H' v d
  | _, _, .non => .non
  | _, _, .bl b => .bl b
  | _, _, .int i => .int i
  | _, _, .str x => .str x
  | _, _, .lst hs ha => .lst (Evl.ex_l e hs) (DrAll.mono e ha)
  | _, _, .tup hs ha => .tup (Evl.ex_t e hs) (DrAll.mono e ha)
  | _, _, .dic hs ha => .dic (e _ _ hs) (DrKv.mono e ha)
theorem DrAll.mono (e : Ex H H') : ∀ {vs : List V} {ds : List PyData}, DrAll K H vs ds → DrAll K H' vs ds
  | _, _, .nil => .nil
  | _, _, .cons h t => .cons (Dr.mono e h) (DrAll.mono e t)
theorem DrKv.mono (e : Ex H H') : ∀ {vs : List (L2.Key × V)} {ds : List (PyData × PyData)}, DrKv K H vs ds → DrKv K H' vs ds
  | _, _, .nil => .nil
  | _, _, .cons h t => .cons (Dr.mono e h) (DrKv.mono e t)
end
theorem DrAll.append : ∀ {vs us : List V} {ds es : List PyData}, DrAll K H vs ds → DrAll K H us es → DrAll K H (vs ++ us) (ds ++ es)
  | _, _, _, _, .nil, s => s
  | _, _, _, _, .cons h t, s => .cons h (t.append s)
theorem DrAll.length : ∀ {vs : List V} {ds : List PyData}, DrAll K H vs ds → vs.length = ds.length
  | _, _, .nil => rfl
  | _, _, .cons _ t => congrArg Nat.succ t.length
theorem DrAll.at : ∀ {vs : List V} {ds : List PyData} {j : Nat} {x : V}, DrAll K H vs ds → vs[j]? = some x → ∃ d, ds[j]? = some d ∧ Dr K H x d
  | _, _, _, _, .nil, e => by simp at e
  | _, _, 0, _, .cons h _, e => by
    simp at e
    subst e
    exact ⟨_, rfl, h⟩
  | _, _, j + 1, x, .cons _ t, e => by
    obtain ⟨d, e1, e2⟩ := DrAll.at (j := j) (x := x) t (by simpa using e)
    exact ⟨d, by simpa using e1, e2⟩
end
/-- the heap without the pen -/
def hide (H : Hp) (p : Addr) : Hp := fun b => if b = p then none else H b
theorem hide_ne {H : Hp} {p b : Addr} (h : b ≠ p) : hide H p b = H b := if_neg h
theorem hide_of {H : Hp} {p b : Addr} {o : HO} (h : hide H p b = some o) : b ≠ p ∧ H b = some o := by
  by_cases e : b = p
  · have z : hide H p b = none := if_pos e
    rw [z] at h
    cases h
  · rw [hide_ne e] at h
    exact ⟨e, h⟩
theorem hide_ex {H : Hp} {p : Addr} : Ex (hide H p) H := fun b o h => (hide_of h).2
theorem hide_mono {H H' : Hp} {p : Addr} (h : ∀ a o, a ≠ p → H a = some o → H' a = some o) : Ex (hide H p) (hide H' p) := fun b o e => by
  obtain ⟨ne, z⟩ := hide_of e
  rw [hide_ne ne]
  exact h b o ne z
theorem hide_ex2 {H H' : Hp} {p : Addr} (h : Ex H H') : Ex (hide H p) (hide H' p) := hide_mono fun a o _ e => h a o e
/-- some data, apart from the pen at p -/
def EvD (K : PySem.W.Frag) (p : Addr) (te : TE) (σ : L2.St) (H : Hp) (d : PyData) : Prop := ∀ H1, Ex H H1 → ∀ Q : VK, (∀ v H2, Ex H1 H2 → Dr K (hide H2 p) v d → Q v H2) → te σ H1 Q
def EvDs (K : PySem.W.Frag) (p : Addr) (ta : TA) (σ : L2.St) (H : Hp) (ds : List PyData) : Prop := ∀ H1, Ex H H1 → ∀ Q : List V → Hp → Prop, (∀ vs H2, Ex H1 H2 → DrAll K (hide H2 p) vs ds → Q vs H2) → ta σ H1 Q
section
variable {K : PySem.W.Frag} {p : Addr} {σ : L2.St} {H : Hp} {te : TE} {ta : TA} {d : PyData} {ds : List PyData} {o : HO}
theorem ed_ev {v : V} (h : Evl.Ev te σ H v) (hv : ∀ H2, Dr K H2 v d) : EvD K p te σ H d := fun H1 e Q q => h H1 e _ fun H2 e2 => q v H2 e2 (hv _)
theorem eds_nil : EvDs K p tNil σ H [] := fun H1 _ _ q => q [] H1 (Ex.refl H1) .nil
theorem eds_cons (h : EvD K p te σ H d) (hr : EvDs K p ta σ H ds) : EvDs K p (tCons te ta) σ H (d :: ds) := fun H1 e Q q =>
  h H1 e _ fun v H2 e2 hv => hr H2 (e.trans e2) _ fun vs H3 e3 hvs => q _ H3 (e2.trans e3) (.cons (hv.mono (hide_ex2 e3)) hvs)
theorem new_ne {H1 : Hp} {q : Addr} (hp : H p = some o) (e : Ex H H1) (nq : H1 q = none) : q ≠ p := fun z => by
  rw [z, e _ _ hp] at nq
  cases nq
theorem ed_tup (hp : H p = some o) (h : EvDs K p ta σ H ds) (hl : ds.length ≤ 1000) : EvD K p (tTup ta) σ H (.tuple ds) := fun H1 e Q q =>
  h H1 e _ fun vs H2 e2 hvs => ⟨Evl.sz_of (by rw [hvs.length]; omega), fun a na => q _ _ (e2.trans (Ex.new na)) (.tup (Evl.st_of ((hide_ne (new_ne hp (e.trans e2) na)).trans upd_same)) (hvs.mono (hide_ex2 (Ex.new na))))⟩
theorem ed_lst (hp : H p = some o) (h : EvDs K p ta σ H ds) (hl : ds.length ≤ 1000) : EvD K p (tLst ta) σ H (.list ds) := fun H1 e Q q =>
  h H1 e _ fun vs H2 e2 hvs => ⟨Evl.sz_of (by rw [hvs.length]; omega), fun a na => q _ _ (e2.trans (Ex.new na)) (.lst (Evl.sq_of ((hide_ne (new_ne hp (e.trans e2) na)).trans upd_same)) (hvs.mono (hide_ex2 (Ex.new na))))⟩
theorem ed_dnew (hp : H p = some o) : EvD K p tDNewK σ H (.dict []) := fun H1 e Q q a na => q _ _ (Ex.new na) (.dic ((hide_ne (new_ne hp e na)).trans upd_same) .nil)
/-- {'x': i} -/
theorem ed_d1 {x : Str} {i : Int} (hp : H p = some o) : EvD K p (tDisp [(tC (.str x), tC (.int i))]) σ H (.dict [(.str x, .int i)]) := fun H1 e Q q a na =>
  ⟨upd_same, [(Sum.inr x, .int i)], rfl, (by show 1 ≤ 15; decide), q _ _ (fun b u z => by rw [upd_ne (ne_of_none z na), upd_ne (ne_of_none z na)]; exact z)
    (.dic (kvs := [(Sum.inr x, .int i)]) ((hide_ne (new_ne hp e na)).trans upd_same) (.cons (.int i) .nil))⟩
theorem q_menu {u : TS} {D : Ends} {i : Nat} (hp : H p = some o) (h : EvDs K p ta σ H ds) (hl : ds.length ≤ 1000) (k : ∀ l us H1, Ex H H1 → H1 l = some (.lst us) → l ≠ p → DrAll K (hide H1 p) us ds → u D (σ.set i (some (.ref l))) H1) : tSeq (tAsg (tLst ta) (gName i)) u D σ H :=
  h H (Ex.refl H) _ fun vs H2 e2 hvs => ⟨Evl.sz_of (by rw [hvs.length]; omega), fun a na => k a vs _ (e2.trans (Ex.new na)) upd_same (new_ne hp e2 na) (hvs.mono (hide_ex2 (Ex.new na)))⟩
end
/-- 'x' * n -/
def rMulS : R2 := fun x y H Q => ∃ (z : Str) (n : Int), x = .str z ∧ y = .int n ∧ MulOk z n ∧ Q (.str (Txt.mul z n)) H
theorem op_mulS {X : Cx} : OpR X (binaryOp .Mult) rMulS := by
  intro pins s σ H x y v u Q I rx ry h
  obtain ⟨z, n, rfl, rfl, ok, q⟩ := h
  obtain ⟨t, rfl⟩ := rx
  obtain ⟨t', rfl⟩ := ry
  exact SB.mul ok fun t' k => ⟨.str _, H, I.tok _, ⟨_, rfl⟩, q⟩
end Tx
namespace K01
open PySem PySem.Spec PyProof.Rows L2 Tx
open Evl (Ex)
/-- data that repr tells shortly -/
def Fine (d : PyData) : Prop := d.showable = true ∧ d.depth ≤ 3 ∧ d.shown.length ≤ 5000
instance (d : PyData) : Decidable (Fine d) := by unfold Fine; exact inferInstance
def menu : List PyData := [.none, .bool true, .bool false, .int 0, .int (-7), .int (10 ^ (30 : Int).toNat), .str "", .str "a", .str "a b", .tuple [], .tuple [.int 1, .str "a"], .list [], .list [.int 1, .list [.int 2]], .dict [], .dict [(.str "a", .int 1)], .str "never"]
theorem menu_fine : ∀ d ∈ menu, Fine d := by decide +kernel
theorem mul_fine : ∀ r < 99, MulOk "x" (r : Nat) ∧ Fine (.str (Txt.mul "x" (r : Nat))) := by
  have h : ∀ r < 99, Fine (.str (Txt.mul "x" (r : Nat))) := by decide +kernel
  intro r hr
  refine ⟨⟨?_, fun _ _ => ?_, fun _ _ => ?_⟩, h r hr⟩
  · simp only [Bool.or_eq_false_iff, decide_eq_false_iff_not]
    omega
  · have : (("x" : Str).length : Int) = 1 := by decide +kernel
    rw [this]
    have h2 : (1 : Int) ≤ (2 ^ 63 - 1) / (r : Int) := by
      rw [Int.le_ediv_iff_mul_le (by omega)]
      omega
    omega
  · have e : ("x" : Str).length = 1 := by decide +kernel
    rw [e]
    unfold Builtin.Str.tooLong
    simp
    rw [sizeLine_eq]
    omega
theorem int_fine {r : Int} (h0 : 0 ≤ r) (h : r < 10 ^ 39) : Fine (.int r) := by
  have hl : r.natAbs.log2 < 130 := PySem.Flt.log2_lt_of (by decide) (by
    have e : (10 : Int) ^ 39 < 2 ^ 130 := by decide
    have : (r.natAbs : Int) < 2 ^ 130 := by omega
    exact_mod_cast this)
  refine ⟨decide_eq_true (by omega), Nat.zero_le _, ?_⟩
  have z := int_text_length_le (a := r) (k := 130) (by decide) hl
  show (Str.ofString (toString r)).length ≤ 5000
  rw [PySem.ofString_length]
  omega
def spVal (K : PySem.W.Frag) : Sp := fun vs H Q _ => ∃ (p : Addr) (n : Nat), vs = [.ref p] ∧ Pen H p n ∧ n ≤ 1000 ∧ ∀ (v : V) (d : PyData) (H' : Hp), Kept p H H' → Pen H' p (n + 3) → Dr K (hide H' p) v d → Fine d → Q v H'
theorem sc_value : FnScope ["_law_pen_here", "_law_some"] ["_law_pen_here"] (defScope s__law_value) := ⟨rfl, rfl, rfl, by decide +kernel, rfl, by decide +kernel, by decide +kernel⟩
theorem Kept.trans {p : Addr} {H H1 H2 : Hp} (a : Kept p H H1) (b : Kept p H1 H2) : Kept p H H2 := fun x o ne e => b x o ne (a x o ne e)
theorem Kept.of {p : Addr} {H H1 : Hp} (a : Ex H H1) : Kept p H H1 := fun x o _ e => a x o e
theorem Pen.mono {H H' : Hp} {p : Addr} {n m : Nat} (h : Pen H p n) (e : Ex H H') (hm : n ≤ m) : Pen H' p m := by
  obtain ⟨c, ns, i, g, h1, h2, h3, h4, h5⟩ := h
  exact ⟨c, ns, i, g, e _ _ h1, e _ _ h2, h3, h4, by omega⟩
end K01

set_option maxHeartbeats 4000000
namespace K01
open PySem PySem.Spec PyProof.Rows L2 Tx
open Evl (Ex)
section
variable {P : Program} {w : World} {K : PySem.W.Frag} {mg : Str → Option Value} {base : Heap} {f : Addr} {fd : FuncData}
theorem ok_value {fD fP : Addr} {dD dP : FuncData} (T : TB mg) (F : Fun K "_law_value" "_law_value" s__law_value f fd) (FD : Fun K "_law_draw" "_law_draw" s__law_draw fD dD) (gD : mg "_law_draw" = some (.ref fD))
    (FP : Fun K "_law_pick" "_law_pick" s__law_pick fP dP) (gP : mg "_law_pick" = some (.ref fP)) : FnOk P w K mg base CX0 3 f fd ["_law_pen_here"] (spVal K) := by
  have GD : FnOk P w K mg base CX0 1 fD dD ["_law_pen_here", "_law_many"] spDraw := ok_draw T FD
  have bD : Binds K dD ["_law_pen_here", "_law_many"] [] := FD.binds fun _ _ _ _ _ _ us hl => match us, hl with | [_, _], _ => rfl
  have GP : FnOk P w K mg base CX0 2 fP dP ["_law_pen_here", "_law_some"] spPick := ok_pick T FP FD gD
  have bP : Binds K dP ["_law_pen_here", "_law_some"] [] := FP.binds fun _ _ _ _ _ _ us hl => match us, hl with | [_, _], _ => rfl
  refine F.ok sc_value (fun vs H Q E h => ?_) (fun cdv A outer s H vs Q E hr h => ⟨_, (pss_cons (ps_set (i := 1) sc_value.nd rfl (Or.inl rfl) (pe_lst (pa_cons pe_non (pa_cons pe_bl (pa_cons pe_bl (pa_cons pe_int (pa_cons (pe_un un_neg pe_int) (pa_cons (pe_op op_pow pe_int pe_int) (pa_cons pe_str (pa_cons pe_str (pa_cons pe_str (pa_cons (pe_tup pa_nil) (pa_cons (pe_tup (pa_cons pe_int (pa_cons pe_str pa_nil))) (pa_cons (pe_lst pa_nil) (pa_cons (pe_lst (pa_cons pe_int (pa_cons (pe_lst (pa_cons pe_int pa_nil)) pa_nil))) (pa_cons pe_dnewK (pa_cons (pe_disp (pps_cons pe_str pe_int pps_nil) (by rfl) (by rfl) (fun z => by cases z) (by decide)) (pa_cons pe_str pa_nil))))))))))))))))))
    (pss_one (ps_ret (pe_call GP hr rfl gP FP.kp bP .nil pass0 (pa_cons (pv 0) (pa_cons (pe_op op_cat (pv 1) (pe_lst (pa_cons (pe_call GD (hr.mono (by decide)) rfl gD FD.kp bD .nil pass0 (pa_cons (pv 0) (pa_cons (pe_op op_pow pe_int pe_int) pa_nil))) (pa_cons (pe_op op_mulS pe_str (pe_call GD (hr.mono (by decide)) rfl gD FD.kp bD .nil pass0 (pa_cons (pv 0) (pa_cons pe_int pa_nil)))) pa_nil)))) pa_nil)))))), ?_⟩)
  · obtain ⟨p, n, rfl, _⟩ := h
    rfl
  · obtain ⟨p, n, rfl, pen, hn, k⟩ := h
    obtain ⟨c0, ns0, i0, g0, hp0, _⟩ := id pen
    refine q_menu (K := K) (ds := menu) hp0 (eds_cons (ed_ev Evl.ev_c fun _ => .non) (eds_cons (ed_ev Evl.ev_c fun _ => .bl _) (eds_cons (ed_ev Evl.ev_c fun _ => .bl _) (eds_cons (ed_ev Evl.ev_c fun _ => .int _) (eds_cons (ed_ev (Evl.ev_un Evl.ev_c Evl.ru_neg) fun _ => .int _) (eds_cons (ed_ev (Evl.ev_op Evl.ev_c Evl.ev_c (Evl.rv_I ⟨by decide, by decide, by decide⟩)) fun _ => .int _) (eds_cons (ed_ev Evl.ev_c fun _ => .str _) (eds_cons (ed_ev Evl.ev_c fun _ => .str _) (eds_cons (ed_ev Evl.ev_c fun _ => .str _) (eds_cons (ed_tup hp0 eds_nil (by decide)) (eds_cons (ed_tup hp0 (eds_cons (ed_ev Evl.ev_c fun _ => .int _) (eds_cons (ed_ev Evl.ev_c fun _ => .str _) eds_nil)) (by simp)) (eds_cons (ed_lst hp0 eds_nil (by decide)) (eds_cons (ed_lst hp0 (eds_cons (ed_ev Evl.ev_c fun _ => .int _) (eds_cons (ed_lst hp0 (eds_cons (ed_ev Evl.ev_c fun _ => .int _) eds_nil) (by simp)) eds_nil)) (by simp)) (eds_cons (ed_dnew hp0) (eds_cons (ed_d1 hp0) (eds_cons (ed_ev Evl.ev_c fun _ => .str _) eds_nil)))))))))))))))) (by decide) fun l1 us H2 e1 hl1 ne1 dd1 => ?_
    have pen1 : Pen H2 p n := pen.mono e1 (Nat.le_refl _)
    have kp1 : Kept p H H2 := Kept.of e1
    have d1 := dd1
    refine ⟨_, rfl, _, rfl, _, rfl, _, _, rfl, rfl, ⟨by decide, by decide, by decide⟩, p, _, n, rfl, pen1, by omega, by decide, by decide, fun r1 H3 r10 r11 kp3 pen3 => ?_⟩
    refine ⟨_, rfl, p, _, n + 1, rfl, pen3, by omega, by decide, by decide, fun r2 H4 r20 r21 kp4 pen4 => ?_⟩
    obtain ⟨j, rfl⟩ : ∃ j : Nat, r2 = (j : Int) := ⟨r2.toNat, (Int.toNat_of_nonneg r20).symm⟩
    obtain ⟨mok, mfine⟩ := mul_fine j (by omega)
    refine ⟨_, _, rfl, rfl, mok, (by show 2 ≤ sizeLine; decide), fun l2 nl2 => ?_⟩
    have hl14 : H4 l1 = some (.lst us) := kp4 _ _ ne1 (kp3 _ _ ne1 hl1)
    have nel : l1 ≠ l2 := ne_of_none hl14 nl2
    refine ⟨l1, l2, us, _, rfl, rfl, (upd_ne nel).trans hl14, upd_same, Evl.sz_of (by rw [d1.length]; show 18 ≤ 100000; decide), fun l3 nl3 => ?_⟩
    have e5 : Ex H4 (upd H4 l2 (.lst [V.int r1, V.str (Txt.mul "x" (j : Int))])) := Ex.new nl2
    have e6 := e5.trans (Ex.new (o := .lst (us ++ [V.int r1, V.str (Txt.mul "x" (j : Int))])) nl3)
    have pen6 := pen4.mono e6 (Nat.le_refl _)
    have ne3 : l3 ≠ p := by
      obtain ⟨_, _, _, _, hp4, _⟩ := pen4
      exact new_ne hp4 e5 nl3
    have d4 : DrAll K (hide H4 p) us menu := dd1.mono ((hide_mono kp3).trans (hide_mono kp4))
    refine ⟨p, l3, n + 1 + 1, _, rfl, pen6, by omega, upd_same, ne3, by rw [List.length_append]; simp, (by rw [List.length_append, d1.length]; show 18 ≤ 1000; decide), fun i x H7 hx kp7 pen7 => ?_⟩
    have dall : DrAll K (hide H4 p) (us ++ [V.int r1, V.str (Txt.mul "x" (j : Int))]) (menu ++ [.int r1, .str (Txt.mul "x" (j : Int))]) := d4.append (.cons (.int _) (.cons (.str _) .nil))
    obtain ⟨d, hd, hdr⟩ := dall.at hx
    refine k x d H7 (((kp1.trans kp3).trans kp4).trans ((Kept.of e6).trans kp7)) pen7 (hdr.mono ((hide_ex2 e6).trans (hide_mono kp7))) ?_
    rcases List.mem_append.mp (List.mem_of_getElem? hd) with hm | hm
    · exact menu_fine d hm
    · simp only [List.mem_cons, List.not_mem_nil, or_false] at hm
      rcases hm with rfl | rfl
      · exact int_fine r10 r11
      · exact mfine
end
end K01

set_option maxHeartbeats 4000000
namespace K01
open PySem PySem.Spec PyProof.Rows L2 Tx
open Evl (Ex)
/-! ### lists of fine data -/
theorem shown_list (ds : List PyData) (h : ∀ d ∈ ds, Fine d) (hl : ds.length ≤ 2) : (PyData.list ds).showable = true ∧ (PyData.list ds).depth ≤ 60 ∧ (PyData.list ds).shown.length ≤ sizeLine := by
  have big : 20000 ≤ sizeLine := by rw [sizeLine_eq]; decide
  match ds, h, hl with
  | [], _, _ => exact ⟨rfl, by decide, Nat.le_trans (by decide +kernel : _ ≤ 20000) big⟩
  | [d], h, _ =>
    obtain ⟨a, b, c⟩ := h d (by simp)
    refine ⟨?_, ?_, Nat.le_trans ?_ big⟩
    · show (d.showable && true) = true
      rw [a]; rfl
    · show max d.depth 0 + 1 ≤ 60
      omega
    · show (listText [d.shown]).length ≤ 20000
      rw [listText_eq_join]
      show (("[" : Str) ++ d.shown ++ "]").length ≤ 20000
      rw [Str.length_append, Str.length_append]
      have e1 : ("[" : Str).length = 1 := by decide +kernel
      have e2 : (("]" : String) : Str).length = 1 := by decide +kernel
      rw [e1, e2]
      omega
  | [d, e], h, _ =>
    obtain ⟨a, b, c⟩ := h d (by simp)
    obtain ⟨a2, b2, c2⟩ := h e (by simp)
    refine ⟨?_, ?_, Nat.le_trans ?_ big⟩
    · show (d.showable && (e.showable && true)) = true
      rw [a, a2]; rfl
    · show max d.depth (max e.depth 0) + 1 ≤ 60
      omega
    · show (listText [d.shown, e.shown]).length ≤ 20000
      rw [listText_eq_join]
      show (("[" : Str) ++ (d.shown ++ ", " ++ e.shown) ++ "]").length ≤ 20000
      rw [Str.length_append, Str.length_append, Str.length_append, Str.length_append]
      have e1 : ("[" : Str).length = 1 := by decide +kernel
      have e2 : (("]" : String) : Str).length = 1 := by decide +kernel
      have e3 : ((", " : String) : Str).length = 2 := by decide +kernel
      rw [e1, e2, e3]
      omega
section
variable {K : PySem.W.Frag} {σ : L2.St} {H : Hp} {te te1 te2 : TE} {tl th : TO} {lo hi : Option Int} {xs : List V} {a : Addr} {ds : List PyData}
theorem et_repr (h1 : Evl.Ev te1 σ H (.ref a)) (ha : H a = some (.lst xs)) (h2 : Evl.EvL te2 σ H xs) (dr : DrAll K H xs ds) (fine : ∀ d ∈ ds, Fine d) (hl : ds.length ≤ 2) :
    Evl.EvT (tTest (tOp rNe (tCB (rRepr K) (tCons te1 tNil)) (tCB (rRepr K) (tCons te2 tNil)))) σ H false := by
  obtain ⟨sh, dep, sz⟩ := shown_list ds fine hl
  have x1 : Evl.Ev (tCB (rRepr K) (tCons te1 tNil)) σ H (.str (PyData.list ds).shown) := fun H1 e Q q =>
    h1 H1 e _ fun H2 e2 => ⟨.ref a, .list ds, rfl, .lst (SqL.of ((e.trans e2) _ _ ha)) (dr.mono (e.trans e2)), sh, dep, sz, q H2 e2⟩
  have x2 : Evl.Ev (tCB (rRepr K) (tCons te2 tNil)) σ H (.str (PyData.list ds).shown) := fun H1 e Q q =>
    h2 H1 e _ fun p H2 np e2 hp => ⟨.ref p, .list ds, rfl, .lst (SqL.of hp) (dr.mono (e.trans e2)), sh, dep, sz, q H2 e2⟩
  exact Evl.et_is (Evl.et_test (Evl.ev_op x1 x2 (Evl.rv_ne rfl))) (by simp)
theorem el_slN (h : Evl.EvL te σ H xs) (h1 : Evl.EvO tl σ H lo) (h2 : Evl.EvO th σ H hi) : Evl.EvL (tSl (rSlL K) te tl th) σ H (cutV xs lo hi) := fun H1 e Q q =>
  h H1 e _ fun a H2 na e2 ha => h1 H2 (e.trans e2) _ fun H3 e3 => h2 H3 ((e.trans e2).trans e3) _ fun H4 e4 =>
    ⟨a, xs, rfl, SqL.of ((e3.trans e4) _ _ ha), fun p hp => q p _ (Evl.fresh_back ((e2.trans e3).trans e4) hp) (((e2.trans e3).trans e4).trans (Ex.new hp)) upd_same⟩
theorem dpAll_bls {H : Hp} : ∀ bs : List Bool, DpAll K H (bs.map V.bl) (bs.map PyData.bool)
  | [] => .nil
  | b :: r => .cons (.bl b) (dpAll_bls r)
theorem lay_bls : ∀ bs : List Bool, PyData.canLayAll0 (bs.map PyData.bool) = true ∧ PyData.depthAll (bs.map PyData.bool) = 0
  | [] => ⟨rfl, rfl⟩
  | b :: r => by
    obtain ⟨h1, h2⟩ := lay_bls r
    constructor
    · simp [PyData.canLayAll0, PyData.canLay0, h1]
    · simp [PyData.depthAll, PyData.depth, h2]
theorem shaped_bls (bs : List Bool) : SeqAt.shaped (.list (bs.map PyData.bool)) = true := by
  obtain ⟨h1, h2⟩ := lay_bls bs
  simp [SeqAt.shaped, PyData.canLay0, PyData.depth, h1, h2]
theorem eqv_bls : ∀ bs : List Bool, PyData.eqvAll (bs.map PyData.bool) (bs.map PyData.bool) = true
  | [] => rfl
  | b :: r => by
    have := eqv_bls r
    simp [PyData.eqvAll, PyData.eqv, this]
theorem et_neB {bs : List Bool} (h1 : Evl.EvL te1 σ H (bs.map V.bl)) (h2 : Evl.EvL te2 σ H (bs.map V.bl)) : Evl.EvT (tTest (tOp (rNeD K) te1 te2)) σ H false := fun H1 e Q q =>
  h1 H1 e _ fun a H2 na e2 ha => h2 H2 (e.trans e2) _ fun b H3 nb e3 hb =>
    ⟨_, _, .lst (SqL.of (e3 _ _ ha)) (dpAll_bls bs), .lst (SqL.of hb) (dpAll_bls bs), shaped_bls bs, shaped_bls bs, false, by
      have z : PyData.eqv (.list (bs.map PyData.bool)) (.list (bs.map PyData.bool)) = true := eqv_bls bs
      rw [z]
      rfl, q H3 (e2.trans e3)⟩
end
/-! ### the table -/
def eff (s : Str) : Str := if s = "0" then "" else s
def Flds (K : PySem.W.Frag) (C : Addr) (fs : List (Str × V)) (z : Str) (v u : V) : Prop := z.cps.size ≤ 2 ∧ ∀ (i c : Nat), z.cps[i]? = some c → ∃ (f : Str) (x : V), ((⟨#[c]⟩ : Str), f) ∈ signs ∧ PySem.W.findIn K (.ref C) f = some none ∧ fs.lookup f = some x ∧ [v, u][i]? = some x
theorem marks_eq : ∀ k < 21, (errs.map fun d => (errs.getD k "") == d) = (List.range 21).map fun j => decide (j = k) := by decide +kernel
section
variable {P : Program} {w : World} {K : PySem.W.Frag} {mg : Str → Option Value} {base : Heap}
theorem flds0 {C : Addr} {z : Str} {v u : V} (hz : z = eff "0") : Flds K C [] z v u := by
  subst hz
  refine ⟨by decide +kernel, fun i c h => ?_⟩
  have e : (eff "0").cps = #[] := by decide +kernel
  rw [e] at h
  simp at h
theorem flds1 {C : Addr} {s f : Str} {c : Nat} {v u : V} (hs : (eff s).cps = #[c]) (hm : ((⟨#[c]⟩ : Str), f) ∈ signs) (no : PySem.W.findIn K (.ref C) f = some none) : Flds K C [(f, v)] (eff s) v u := by
  refine ⟨by rw [hs]; simp, fun i c' h => ?_⟩
  rw [hs] at h
  match i, h with
  | 0, h =>
    simp at h
    subst h
    exact ⟨f, v, hm, no, by simp [List.lookup], rfl⟩
  | i + 1, h => simp at h
theorem flds2 {C : Addr} {s f g : Str} {c d : Nat} {v u : V} (hs : (eff s).cps = #[c, d]) (hm : ((⟨#[c]⟩ : Str), f) ∈ signs) (hm2 : ((⟨#[d]⟩ : Str), g) ∈ signs) (ne : f ≠ g) (no : PySem.W.findIn K (.ref C) f = some none) (no2 : PySem.W.findIn K (.ref C) g = some none) :
    Flds K C [(g, u), (f, v)] (eff s) v u := by
  refine ⟨by rw [hs]; simp, fun i c' h => ?_⟩
  rw [hs] at h
  match i, h with
  | 0, h =>
    simp at h
    subst h
    have e : (f == g) = false := by simpa using ne
    exact ⟨f, v, hm, no, by simp [List.lookup, e], rfl⟩
  | 1, h =>
    simp at h
    subst h
    exact ⟨g, u, hm2, no2, by simp [List.lookup], rfl⟩
  | i + 2, h => simp at h
theorem tab (T : TC P w K mg base) (v u : V) : ∀ k < 21, ∃ (n : Str) (fs : List (Str × V)) (s : Str), errs[k]? = some n ∧ (spec K v u)[k]? = some (He.ga K n, fs) ∧ row[k]? = some s ∧ Flds K (He.ga K n) fs (eff s) v u := by
  intro k hk
  match k, hk with
  | 0, _ => exact ⟨"BadSystem", _, "p", rfl, rfl, rfl, flds1 (c := 112) (by decide +kernel) (by decide +kernel) T.c_BadSystem.no⟩
  | 1, _ => exact ⟨"BadCut", _, "v", rfl, rfl, rfl, flds1 (c := 118) (by decide +kernel) (by decide +kernel) T.c_BadCut.no⟩
  | 2, _ => exact ⟨"BadKey", _, "v", rfl, rfl, rfl, flds1 (c := 118) (by decide +kernel) (by decide +kernel) T.c_BadKey.no⟩
  | 3, _ => exact ⟨"BadPlace", _, "v", rfl, rfl, rfl, flds1 (c := 118) (by decide +kernel) (by decide +kernel) T.c_BadPlace.no⟩
  | 4, _ => exact ⟨"BadName", _, "v", rfl, rfl, rfl, flds1 (c := 118) (by decide +kernel) (by decide +kernel) T.c_BadName.no⟩
  | 5, _ => exact ⟨"BadRule", _, "p", rfl, rfl, rfl, flds1 (c := 112) (by decide +kernel) (by decide +kernel) T.c_BadRule.no⟩
  | 6, _ => exact ⟨"BadKind", _, "p", rfl, rfl, rfl, flds1 (c := 112) (by decide +kernel) (by decide +kernel) T.c_BadKind.no⟩
  | 7, _ => exact ⟨"BadLengths", _, "p", rfl, rfl, rfl, flds1 (c := 112) (by decide +kernel) (by decide +kernel) T.c_BadLengths.no⟩
  | 8, _ => exact ⟨"BadCount", _, "v", rfl, rfl, rfl, flds1 (c := 118) (by decide +kernel) (by decide +kernel) T.c_BadCount.no⟩
  | 9, _ => exact ⟨"Unlike", _, "0", rfl, rfl, rfl, flds0 rfl⟩
  | 10, _ => exact ⟨"Outside", _, "k", rfl, rfl, rfl, flds1 (c := 107) (by decide +kernel) (by decide +kernel) T.c_Outside.no⟩
  | 11, _ => exact ⟨"Clash", _, "c", rfl, rfl, rfl, flds1 (c := 99) (by decide +kernel) (by decide +kernel) T.c_Clash.no⟩
  | 12, _ => exact ⟨"Crosses", _, "n", rfl, rfl, rfl, flds1 (c := 110) (by decide +kernel) (by decide +kernel) T.c_Crosses.no⟩
  | 13, _ => exact ⟨"Opens", _, "ko", rfl, rfl, rfl, flds2 (c := 107) (d := 111) (by decide +kernel) (by decide +kernel) (by decide +kernel) (by decide +kernel) T.c_Opens.no T.c_Opens.no2⟩
  | 14, _ => exact ⟨"NotSafe", _, "ko", rfl, rfl, rfl, flds2 (c := 107) (d := 111) (by decide +kernel) (by decide +kernel) (by decide +kernel) (by decide +kernel) T.c_NotSafe.no T.c_NotSafe.no2⟩
  | 15, _ => exact ⟨"NoDoor", _, "n", rfl, rfl, rfl, flds1 (c := 110) (by decide +kernel) (by decide +kernel) T.c_NoDoor.no⟩
  | 16, _ => exact ⟨"NoRule", _, "n", rfl, rfl, rfl, flds1 (c := 110) (by decide +kernel) (by decide +kernel) T.c_NoRule.no⟩
  | 17, _ => exact ⟨"NoKey", _, "v", rfl, rfl, rfl, flds1 (c := 118) (by decide +kernel) (by decide +kernel) T.c_NoKey.no⟩
  | 18, _ => exact ⟨"TooMany", _, "hm", rfl, rfl, rfl, flds2 (c := 104) (d := 109) (by decide +kernel) (by decide +kernel) (by decide +kernel) (by decide +kernel) T.c_TooMany.no T.c_TooMany.no2⟩
  | 19, _ => exact ⟨"Nothing", _, "0", rfl, rfl, rfl, flds0 rfl⟩
  | 20, _ => exact ⟨"BadText", _, "lw", rfl, rfl, rfl, flds2 (c := 108) (d := 119) (by decide +kernel) (by decide +kernel) (by decide +kernel) (by decide +kernel) T.c_BadText.no T.c_BadText.no2⟩
  | k + 21, hk => omega
end
end K01

set_option maxHeartbeats 4000000
namespace K01
open PySem PySem.Spec PyProof.Rows L2 Tx
open Evl (Ex)
theorem at0 {xs : List V} {m : Nat} {v : V} (h : xs[m]? = some v) : atI xs (0 + (m : Int)) = some v := by
  rw [Int.zero_add]
  exact atI_nat h
theorem take_next {xs : List V} {i : Nat} {x : V} (h : xs[i]? = some x) : xs.take i ++ [x] = xs.take (i + 1) := by
  rw [List.take_add_one, h]
  rfl
theorem cut2 {v u : V} : ∀ n : Nat, n ≤ 2 → cutV [v, u] none (some (n : Int)) = [v, u].take n
  | 0, _ => rfl
  | 1, _ => rfl
  | 2, _ => rfl
  | n + 3, h => by omega
section
variable {P : Program} {w : World} {K : PySem.W.Frag} {mg : Str → Option Value} {base : Heap} {σ : L2.St} {H : Hp} {te tx : TE}
theorem ev_eff {s : Str} (h : Evl.Ev tx σ H (.str s)) : Evl.Ev (tIf (tTest (tOp rNe tx (tC (.str "0")))) tx (tC (.str ""))) σ H (.str (eff s)) := by
  refine Evl.ev_if (b := !decide (V.str s = V.str "0")) (Evl.et_test (Evl.ev_op h Evl.ev_c (Evl.rv_ne rfl))) (fun z => ?_) (fun z => ?_)
  · refine Evl.ev_is h ?_
    have ne : s ≠ "0" := fun e => by
      subst e
      simp at z
    unfold eff
    rw [if_neg ne]
  · refine Evl.ev_is Evl.ev_c ?_
    have e : s = "0" := by
      simpa using z
    subst e
    unfold eff
    rw [if_pos rfl]
theorem ev_lenS {z : Str} (h : Evl.Ev te σ H (.str z)) (hz : z.cps.size ≤ 2) : Evl.Ev (tCB (fun xs H Q => ∃ x n, xs = [x] ∧ LenV K x H n ∧ Q (V.int (n : Nat)) H) (tCons te tNil)) σ H (.int (z.cps.size : Nat)) := fun H1 e Q q =>
  h H1 e _ fun H2 e2 => ⟨_, _, rfl, ⟨Nat.le_trans hz (by rw [sizeLine_eq]; decide), rfl⟩, q H2 e2⟩
theorem ev_isK {a : Addr} {n : Str} {fs : List (Str × V)} (T : TC P w K mg base) (hn : n ∈ errs) (he : Err H a (He.ga K n) fs) (h : Evl.Ev te σ H (.ref a)) :
    Evl.Ev (tCB (rIsErr K) (tCons te (tCons (tC (.ref (He.ga K "KeyingError"))) tNil))) σ H (.bl true) := fun H1 e Q q =>
  h H1 e _ fun H2 e2 => ⟨a, _, fs, _, _, _, rfl, he.mono (e.trans e2), T.ex n hn, fun u r => r, T.isK n hn, q H2 e2⟩
theorem ev_isV {a : Addr} {n : Str} {fs : List (Str × V)} (T : TC P w K mg base) (hn : n ∈ errs) (he : Err H a (He.ga K n) fs) (h : Evl.Ev te σ H (.ref a)) :
    Evl.Ev (tCB (rIsErr K) (tCons te (tCons (tC (.ty "ValueError")) tNil))) σ H (.bl true) := fun H1 e Q q =>
  h H1 e _ fun H2 e2 => ⟨a, _, fs, _, _, _, rfl, he.mono (e.trans e2), T.ex n hn, fun u r => r, T.isV n hn, q H2 e2⟩
/-- [_law_kept(caught, sign) for sign in fields] -/
theorem el_kept {s0 s1 s2 s3 s4 s5 s6 s7 s10 s11 s12 : Option V} {z : Str} {ad C : Addr} {fs : List (Str × V)} {v u : V} (er : Err H ad C fs) (ex : ExcC K C) (fl : Flds K C fs z v u) :
    Evl.EvL (tLc (iStr (tVar 9)) (gName 11) tYes (tCall (spKept K) [] E0 (tCons (tVar 8) (tCons (tVar 11) tNil))) [11]) [s0, s1, s2, s3, s4, s5, s6, s7, some (.ref ad), some (.str z), s10, s11, s12] H ([v, u].take z.cps.size) := fun H1 e Q q => by
  refine ⟨_, rfl, z, rfl, fun D nD => lc_it walk_str (fun i H' => Ex H1 H' ∧ H' D = some (.lst ([v, u].take i))) ⟨Ex.new nD, upd_same⟩ (fun _ _ _ _ => trivial) ?_ (fun H' h' => q D H' nD h'.1 h'.2)⟩
  rintro i x H2 H3 hi ⟨e2, hD⟩ ⟨rfl, c, hc, rfl⟩
  obtain ⟨f, y, hm, no, look, hy⟩ := fl.2 i c hc
  refine ⟨rfl, ?_⟩
  dsimp only [tYes]
  rw [if_pos rfl]
  refine ⟨_, rfl, _, rfl, ad, C, fs, _, f, y, rfl, hm, er.mono (e.trans e2), ex, no, look, fun H4 e4 => ⟨_, e4 _ _ hD, ?_, Evl.Ex.mut (e2.trans e4) nD, ?_⟩⟩
  · rw [List.length_take]
    exact Nat.lt_of_le_of_lt (Nat.min_le_right _ _) (by show 2 < sizeLine; decide)
  · rw [upd_same, take_next hy]
/-- [k == spot for k in range(len(some))] -/
theorem el_same {s0 s1 s2 s3 s4 s5 s8 s9 s10 s11 s12 : Option V} {q0 : Addr} {us : List V} {m : Nat} (hq : H q0 = some (.lst us)) (hu : us.length = 21) :
    Evl.EvL (tLc (iRng1 (tCons (tCB (fun xs H Q => ∃ x n, xs = [x] ∧ LenV K x H n ∧ Q (V.int (n : Nat)) H) (tCons (tVar 6) tNil)) tNil)) (gName 12) tYes (tOp rEq (tVar 12) (tVar 7)) [12])
      [s0, s1, s2, s3, s4, s5, some (.ref q0), some (.int (0 + (m : Int))), s8, s9, s10, s11, s12] H (((List.range 21).map fun j => decide (j = m)).map V.bl) := fun H1 e Q q => by
  refine ⟨_, rfl, _, _, rfl, .inl ⟨us, SqL.of (e _ _ hq), rfl⟩, _, rfl, by rw [hu]; decide, by rw [hu]; decide, fun D nD => ?_⟩
  have en : (Int.toNat ((us.length : Nat) : Int)) = 21 := by rw [hu]; rfl
  rw [en]
  refine lc_it walk_range (fun i H' => Ex H1 H' ∧ H' D = some (.lst (((List.range i).map fun j => decide (j = m)).map V.bl))) ⟨Ex.new nD, upd_same⟩ (fun _ _ _ _ => trivial) ?_ (fun H' h' => q D H' nD h'.1 h'.2)
  rintro i x H2 H3 hi ⟨e2, hD⟩ ⟨rfl, rfl⟩
  refine ⟨rfl, ?_⟩
  dsimp only [tYes]
  rw [if_pos rfl]
  refine ⟨_, rfl, _, rfl, rfl, _, hD, ?_, Evl.Ex.mut e2 nD, ?_⟩
  · rw [List.length_map, List.length_map, List.length_range]
    exact Nat.lt_of_lt_of_le hi (by show 21 ≤ sizeLine; decide)
  · rw [upd_same, List.range_succ, List.map_append, List.map_append]
    have ed : decide (V.int (0 + (i : Int)) = V.int (0 + (m : Int))) = decide (i = m) := by
      by_cases h : i = m
      · subst h
        simp
      · rw [decide_eq_false h]
        refine decide_eq_false fun z => h ?_
        have z2 : (0 : Int) + i = 0 + m := V.int.inj z
        omega
    rw [ed]
    rfl
theorem el_marks {te2 : TE} {a : Addr} {n : Str} {fs : List (Str × V)} (hn : n ∈ errs) (er : Err H a (He.ga K n) fs) (h : Evl.Ev te2 σ H (.ref a)) : Evl.EvL (tCall (spMarks K) [] E0 (tCons te2 tNil)) σ H ((errs.map fun d => n == d).map V.bl) := fun H1 e Q q =>
  h H1 e _ fun H2 e2 => ⟨a, n, fs, rfl, hn, er.mono (e.trans e2), fun p H' e3 np hp => q p H' (Evl.fresh_back e2 np) (e2.trans e3) hp⟩
end
end K01

set_option maxHeartbeats 4000000
namespace K01
open PySem PySem.Spec PyProof.Rows L2 Tx
open Evl (Ex)
def spLaw (K : PySem.W.Frag) : Sp := fun vs H Q _ => ∃ (a : Addr) (ns : List Int), vs = [.ref a] ∧ SqL K H a (ns.map V.int) ∧ ns.length ≤ 63 ∧ ∀ H', Q (.bl true) H'
/-- where the defs stand -/
structure TF (K : PySem.W.Frag) (mg : Str → Option Value) : Prop where
  pen : ∃ f d, mg "_law_pen" = some (.ref f) ∧ Fun K "_law_pen" "_law_pen" s__law_pen f d
  draw : ∃ f d, mg "_law_draw" = some (.ref f) ∧ Fun K "_law_draw" "_law_draw" s__law_draw f d
  pick : ∃ f d, mg "_law_pick" = some (.ref f) ∧ Fun K "_law_pick" "_law_pick" s__law_pick f d
  place : ∃ f d, mg "_law_by_place" = some (.ref f) ∧ Fun K "_law_by_place" "_law_by_place" s__law_by_place f d
  name : ∃ f d, mg "_law_by_name" = some (.ref f) ∧ Fun K "_law_by_name" "_law_by_name" s__law_by_name f d
  sgn : ∃ f d, mg "_law_signs" = some (.ref f) ∧ Fun K "_law_signs" "_law_signs" s__law_signs f d
  kept : ∃ f d, mg "_law_kept" = some (.ref f) ∧ Fun K "_law_kept" "_law_kept" s__law_kept f d
  marks : ∃ f d, mg "_law_marks" = some (.ref f) ∧ Fun K "_law_marks" "_law_marks" s__law_marks f d
  value : ∃ f d, mg "_law_value" = some (.ref f) ∧ Fun K "_law_value" "_law_value" s__law_value f d
theorem sc_law : FnScope ["_law_script", "_law_pen_here", "_law_signs_here", "_law_turn", "_law_first", "_law_later", "_law_some", "_law_spot", "_law_caught", "_law_fields", "_law_kept_here", "_law_sign", "_law_k"] ["_law_script"] (defScope s_law) := ⟨rfl, rfl, rfl, by decide +kernel, rfl, by decide +kernel, by decide +kernel⟩
section
variable {P : Program} {w : World} {K : PySem.W.Frag} {mg : Str → Option Value} {base : Heap} {f : Addr} {fd : FuncData}
theorem ok_law (T : TC P w K mg base) (Z : TF K mg) (F : Fun K "law" "law" s_law f fd) : FnG P w K mg base CX0 5 f fd ["_law_script"] (spLaw K) := by
  obtain ⟨fN, DN, gN, FN⟩ := Z.pen
  obtain ⟨fD, DD, gD, FD⟩ := Z.draw
  obtain ⟨fQ, DQ, gQ, FQ⟩ := Z.pick
  obtain ⟨fP, DP, gP, FP⟩ := Z.place
  obtain ⟨fB, DB, gB, FB⟩ := Z.name
  obtain ⟨fS, DS, gS, FS⟩ := Z.sgn
  obtain ⟨fK, DK, gK, FK⟩ := Z.kept
  obtain ⟨fM, DM, gM, FM⟩ := Z.marks
  obtain ⟨fV, DV, gV, FV⟩ := Z.value
  have GN : FnOk P w K mg base CX0 1 fN DN ["_law_script"] (spPen K) := ok_pen T.tb FN
  have GV : FnOk P w K mg base CX0 3 fV DV ["_law_pen_here"] (spVal K) := ok_value T.tb FV FD gD FQ gQ
  have GP : FnOk P w K mg base CX0 3 fP DP ["_law_a", "_law_b"] (spBy K) := ok_by_place T FP
  have GB : FnOk P w K mg base CX0 3 fB DB ["_law_a", "_law_b"] (spBy K) := ok_by_name T FB
  have GS : FnOk P w K mg base CX0 1 fS DS [] spSigns := ok_signs FS
  have GK : FnOk P w K mg base CX0 1 fK DK ["_law_caught", "_law_sign"] (spKept K) := ok_kept FK
  have GM : FnOk P w K mg base CX0 1 fM DM ["_law_caught"] (spMarks K) := ok_marks T FM
  have bN : Binds K DN ["_law_script"] [] := FN.binds fun _ _ _ _ _ _ us hl => match us, hl with | [_], _ => rfl
  have bV : Binds K DV ["_law_pen_here"] [] := FV.binds fun _ _ _ _ _ _ us hl => match us, hl with | [_], _ => rfl
  have bP : Binds K DP ["_law_a", "_law_b"] [] := FP.binds fun _ _ _ _ _ _ us hl => match us, hl with | [_, _], _ => rfl
  have bB : Binds K DB ["_law_a", "_law_b"] [] := FB.binds fun _ _ _ _ _ _ us hl => match us, hl with | [_, _], _ => rfl
  have bS : Binds K DS [] [] := FS.binds fun _ _ _ _ _ _ us hl => match us, hl with | [], _ => rfl
  have bK : Binds K DK ["_law_caught", "_law_sign"] [] := FK.binds fun _ _ _ _ _ _ us hl => match us, hl with | [_, _], _ => rfl
  have bM : Binds K DM ["_law_caught"] [] := FM.binds fun _ _ _ _ _ _ us hl => match us, hl with | [_], _ => rfl
  refine FnG.of F sc_law (fun vs H Q E h => ?_) (fun cdv A outer s H vs Q E gd hr h => ⟨_, PSs.nox (pss_cons (ps_set (i := 1) sc_law.nd rfl (Or.inl rfl) (pe_call GN (hr.mono (by decide)) rfl gN FN.kp bN .nil pass0 (pa_cons (pv 0) pa_nil)))
    (pss_cons (ps_set (i := 2) sc_law.nd rfl (Or.inl rfl) (pe_call0 GS (hr.mono (by decide)) rfl gS FS.kp bS .nil pass0))
    (pss_cons (ps_for PassesOwn.never rfl (pi_range1 (by rfl) T.tb.b_range (pa_cons pe_int pa_nil)) (pg_name (i := 3) sc_law.nd rfl (Or.inl rfl))
     (pss_cons (ps_par (i := 4) (j := 5) rfl sc_law.nd rfl rfl (by decide) rfl rfl (pa_cons (pe_call GV (hr.mono (by decide)) rfl gV FV.kp bV .nil pass0 (pa_cons (pv 1) pa_nil)) (pa_cons (pe_call GV (hr.mono (by decide)) rfl gV FV.kp bV .nil pass0 (pa_cons (pv 1) pa_nil)) pa_nil)) (by rfl))
     (pss_one (ps_for PassesOwn.never rfl (pi_tup (pe_tup (pa_cons (pe_call GP (hr.mono (by decide)) rfl gP FP.kp bP .nil pass0 (pa_cons (pv 4) (pa_cons (pv 5) pa_nil))) (pa_cons (pe_call GB (hr.mono (by decide)) rfl gB FB.kp bB .nil pass0 (pa_cons (pv 4) (pa_cons (pv 5) pa_nil))) pa_nil)))) (pg_name (i := 6) sc_law.nd rfl (Or.inl rfl))
      (pss_one (ps_for PassesOwn.never rfl (pi_range1 (by rfl) T.tb.b_range (pa_cons (pe_callB call_len (by rfl) T.tb.b_len (by decide +kernel) (pa_cons (pv 2) pa_nil)) pa_nil)) (pg_name (i := 7) sc_law.nd rfl (Or.inr rfl))
      (pss_cons (ps_set (i := 8) sc_law.nd rfl (Or.inr rfl) (pe_ix ix_list (pv 6) (pv 7) (fun _ _ => rfl)))
      (pss_cons (ps_set (i := 9) sc_law.nd rfl (Or.inl rfl) (pe_ifExp (pt_cmpR op_ne (pe_ix ix_list (pv 2) (pv 7) (fun _ _ => rfl)) pe_str (nomark _)) (pe_ix ix_list (pv 2) (pv 7) (fun _ _ => rfl)) pe_str))
      (pss_cons (ps_setLc (i := 10) (own := [("_law_sign", 11)]) (g := gName 11) (tt := tYes) rfl sc_law.nd rfl rfl (sw_true rfl rfl rfl (by decide +kernel)) (pi_str (pv 9)) (blkOk_by (own := [("_law_sign", 11)]) (N := ["_law_script", "_law_pen_here", "_law_signs_here", "_law_turn", "_law_first", "_law_later", "_law_some", "_law_spot", "_law_caught", "_law_fields", "_law_kept_here", "_law_sign", "_law_k"]) (sc := defScope s_law) (by decide +kernel)) (fun _ _ _ _ _ => pg_name (i := 11) sc_law.nd rfl (Or.inl rfl)) (fun _ _ _ _ _ => pts_nil) (fun _ _ _ _ _ => (pe_call GK (hr.mono (by decide)) rfl gK FK.kp bK .nil pass0 (pa_cons (pv 8) (pa_cons (pv 11) pa_nil)))))
      (pss_cons (ps_if (pt_cmpR op_ne (pe_callB (call_reprD gd hr.units T.sys) (by rfl) T.tb.b_repr (by decide +kernel) (pa_cons (pv 10) pa_nil)) (pe_callB (call_reprD gd hr.units T.sys) (by rfl) T.tb.b_repr (by decide +kernel) (pa_cons (pe_slice sl_list (pe_lst (pa_cons (pv 4) (pa_cons (pv 5) pa_nil))) po_none (po_some (pe_callB call_len (by rfl) T.tb.b_len (by decide +kernel) (pa_cons (pv 9) pa_nil)))) pa_nil)) (nomark _)) (pss_one (ps_ret pe_bl)) pss_nil)
      (pss_cons (ps_if (PW.pt (pw_or (pt_not (pt_val (pe_callB call_isErr (by rfl) T.tb.b_isinstance (by decide +kernel) (pa_cons (pv 8) (pa_cons (pe_glob (v := V.ref (He.ga K "KeyingError")) rfl T.k.g rfl) pa_nil))))) (pw_or1 (pt_not (pt_val (pe_callB call_isErr (by rfl) T.tb.b_isinstance (by decide +kernel) (pa_cons (pv 8) (pa_cons (pe_bltn (v := V.ty "ValueError") (by rfl) T.tb.b_ValueError (by decide +kernel) rfl) pa_nil)))))))) (pss_one (ps_ret pe_bl)) pss_nil)
      (pss_one (ps_if (pt_cmpR (op_neD hr.units) (pe_call GM (hr.mono (by decide)) rfl gM FM.kp bM .nil pass0 (pa_cons (pv 8) pa_nil)) (pe_lc (own := [("_law_k", 12)]) (g := gName 12) (tt := tYes) rfl sc_law.nd (pi_range1 (by rfl) T.tb.b_range (pa_cons (pe_callB call_len (by rfl) T.tb.b_len (by decide +kernel) (pa_cons (pv 6) pa_nil)) pa_nil)) (blkOk_by (own := [("_law_k", 12)]) (N := ["_law_script", "_law_pen_here", "_law_signs_here", "_law_turn", "_law_first", "_law_later", "_law_some", "_law_spot", "_law_caught", "_law_fields", "_law_kept_here", "_law_sign", "_law_k"]) (sc := defScope s_law) (by decide +kernel)) (fun _ _ _ _ _ => pg_name (i := 12) sc_law.nd rfl (Or.inl rfl)) (fun _ _ _ _ _ => pts_nil) (fun _ _ _ _ _ => (pe_cmpR op_eq (pv 12) (pv 7) (nomark _)))) (nomark _)) (pss_one (ps_ret pe_bl)) pss_nil)))))))))))))
    (pss_one (ps_ret pe_bl))))), ?_⟩)
  · obtain ⟨a, ns, rfl, _⟩ := h
    rfl
  · obtain ⟨a, ns, rfl, hs, hl, k⟩ := h
    refine ⟨_, rfl, a, ns, rfl, hs, hl, fun p H1 e1 np pen1 => ?_⟩
    refine ⟨rfl, fun sg nsg => ?_⟩
    have nsp : sg ≠ p := by
      obtain ⟨_, _, _, _, hp1, _⟩ := pen1
      exact fun z => by
        rw [z, hp1] at nsg
        cases nsg
    have pen2 : Pen (upd H1 sg (.lst (row.map V.str))) p 0 := pen1.mono (Ex.new nsg) (Nat.le_refl _)
    have hsg2 : upd H1 sg (.lst (row.map V.str)) sg = some (.lst (row.map V.str)) := upd_same
    dsimp only [gName]
    generalize upd H1 sg (.lst (row.map V.str)) = H2 at pen2 hsg2 ⊢
    refine ⟨4, rfl, by decide, by decide, for_range (lo := 0) (n := 4) (fun i σ H' => ∃ x3 x4 x5 x6 x7 x8 x9 x10 x11 x12 : Option V, σ = [some (.ref a), some (.ref p), some (.ref sg), x3, x4, x5, x6, x7, x8, x9, x10, x11, x12] ∧ Pen H' p (6 * i) ∧ H' sg = some (.lst (row.map V.str)))
      ⟨none, none, none, none, none, none, none, none, none, none, rfl, pen2, hsg2⟩ ?_ (fun σ H' _ => k H')⟩
    rintro i σ H3 hi ⟨x3, x4, x5, x6, x7, x8, x9, x10, x11, x12, rfl, pen3, hsg3⟩
    refine ⟨_, rfl, p, 6 * i, rfl, pen3, by omega, fun v1 d1 H4 kp4 pen4 dr4 fine1 => ⟨_, rfl, p, 6 * i + 3, rfl, pen4, by omega, fun v2 d2 H5 kp5 pen5 dr5 fine2 => ⟨_, _, rfl, ?_⟩⟩⟩
    refine ⟨_, rfl, _, rfl, v1, v2, rfl, fun q1 us1 H6 e6 h6 r6 => ⟨_, rfl, _, rfl, v1, v2, rfl, fun q2 us2 H7 e7 h7 r7 => ⟨(by show 2 ≤ sizeLine; decide), fun tp ntp => ⟨tp, rfl, ⟨_, SqT.of upd_same⟩, ?_⟩⟩⟩⟩
    have e8 : Ex H7 (upd H7 tp (.tup [.ref q1, .ref q2])) := Ex.new ntp
    have e58 := (e6.trans e7).trans e8
    have htp : upd H7 tp (.tup [.ref q1, .ref q2]) tp = some (.tup [.ref q1, .ref q2]) := upd_same
    have hq1 := e8 _ _ (e7 _ _ h6)
    have rq1 := (r6.mono e7).mono e8
    have hq2 := e8 _ _ h7
    have rq2 := r7.mono e8
    have hsg8 := e58 _ _ (kp5 _ _ nsp (kp4 _ _ nsp hsg3))
    have pen8 := pen5.mono e58 (Nat.le_refl (6 * i + 3 + 3))
    have dr1 := ((dr4.mono (hide_mono kp5)).mono hide_ex).mono e58
    have dr2 := (dr5.mono hide_ex).mono e58
    clear e8 e58
    generalize upd H7 tp (.tup [.ref q1, .ref q2]) = H8 at htp hq1 rq1 hq2 rq2 hsg8 pen8 dr1 dr2 ⊢
    refine for_tup (K := K) (a := tp) (xs := [.ref q1, .ref q2]) (fun j σ H' => ∃ x6 x7 x8 x9 x10 x11 x12 : Option V, σ = [some (.ref a), some (.ref p), some (.ref sg), some (.int (0 + (i : Int))), some v1, some v2, x6, x7, x8, x9, x10, x11, x12] ∧ Ex H8 H')
      ⟨_, _, _, _, _, _, _, rfl, Ex.refl _⟩ (fun j σ H' _ h' => by
        obtain ⟨_, _, _, _, _, _, _, _, e'⟩ := h'
        exact SqT.of (e' _ _ htp)) ?_ ?_
    · rintro j x σ H9 hx ⟨x6, x7, x8, x9, x10, x11, x12, rfl, e9⟩
      obtain ⟨q, us, rfl, hq, rq⟩ : ∃ q us, x = .ref q ∧ H8 q = some (.lst us) ∧ ErrAll H8 us (spec K v1 v2) := by
        match j, hx with
        | 0, hx => exact ⟨q1, us1, (Option.some.inj hx).symm, hq1, rq1⟩
        | 1, hx => exact ⟨q2, us2, (Option.some.inj hx).symm, hq2, rq2⟩
        | j + 2, hx => simp at hx
      refine ⟨_, rfl, _, _, rfl, .inl ⟨_, SqL.of (e9 _ _ hsg8), rfl⟩, _, rfl, by decide, by decide, ?_⟩
      refine for_range (lo := 0) (n := 21) (fun m σ H' => ∃ x7 x8 x9 x10 x11 x12 : Option V, σ = [some (.ref a), some (.ref p), some (.ref sg), some (.int (0 + (i : Int))), some v1, some v2, some (.ref q), x7, x8, x9, x10, x11, x12] ∧ Ex H9 H')
        ⟨_, _, _, _, _, _, rfl, Ex.refl _⟩ ?_ (fun σ H' h' => by
          obtain ⟨y7, y8, y9, y10, y11, y12, rfl, e'⟩ := h'
          exact ⟨_, _, _, _, _, _, _, rfl, e9.trans e'⟩)
      rintro m σ H10 hm ⟨y7, y8, y9, y10, y11, y12, rfl, e10⟩
      obtain ⟨n, fs, s, hn, hspec, hrow, hfl⟩ := tab T v1 v2 m hm
      have e0 := e9.trans e10
      obtain ⟨ad, had, er⟩ := (rq.mono e0).at hspec
      have hn' : n ∈ errs := List.mem_of_getElem? hn
      have hrow' : (row.map V.str)[m]? = some (.str s) := by
        rw [List.getElem?_map, hrow]
        rfl
      dsimp only [gName]
      refine Evl.q_asg (v := .ref ad) (Evl.ev_op (Evl.ev_var rfl) (Evl.ev_var rfl) (Evl.rv_ixL (SqL.of (e0 _ _ hq)) (at0 had))) (fun H11 e11 => ?_)
      have f1 := e0.trans e11
      refine Evl.q_asg (v := .str (eff s)) (ev_eff (Evl.ev_op (Evl.ev_var rfl) (Evl.ev_var rfl) (Evl.rv_ixL (SqL.of (f1 _ _ hsg8)) (at0 hrow')))) (fun H12 e12 => ?_)
      have f2 := f1.trans e12
      have er2 := (er.mono e11).mono e12
      refine Evl.q_asgL (xs := [v1, v2].take (eff s).cps.size) (el_kept er2 (T.ex n hn') hfl) (fun D H13 nD e13 hD => ?_)
      have f3 := f2.trans e13
      have er3 := er2.mono e13
      have dr : DrAll K H13 ([v1, v2].take (eff s).cps.size) ([d1, d2].take (eff s).cps.size) := by
        have h2 := hfl.1
        have a1 := dr1.mono f3
        have a2 := dr2.mono f3
        generalize (eff s).cps.size = z at h2 ⊢
        match z, h2 with
        | 0, _ => exact .nil
        | 1, _ => exact .cons a1 .nil
        | 2, _ => exact .cons a1 (.cons a2 .nil)
        | z + 3, h2 => omega
      have fine : ∀ d ∈ [d1, d2].take (eff s).cps.size, Fine d := fun d hd => by
        have z := List.mem_of_mem_take hd
        simp only [List.mem_cons, List.not_mem_nil, or_false] at z
        rcases z with rfl | rfl
        · exact fine1
        · exact fine2
      refine Evl.q_when (b := false) (et_repr (Evl.ev_var rfl) hD (by
        rw [← cut2 _ hfl.1]
        exact el_slN (Evl.el_lst (Evl.ea_cons (Evl.ev_var rfl) (Evl.ea_cons (Evl.ev_var rfl) Evl.ea_nil)) (by simp)) Evl.eo_none (Evl.eo_some (ev_lenS (Evl.ev_var rfl) hfl.1))) dr fine (by rw [List.length_take]; exact Nat.min_le_right _ _)) (fun z => by cases z) (fun _ H14 e14 => ?_)
      have er4 := er3.mono e14
      refine Evl.q_when (b := false) (Evl.et_is (Evl.et_or (Evl.et_not (Evl.et_B (ev_isK T hn' er4 (Evl.ev_var rfl)))) (fun _ => Evl.et_not (Evl.et_B (ev_isV T hn' er4 (Evl.ev_var rfl))))) rfl) (fun z => by cases z) (fun _ H15 e15 => ?_)
      have er5 := er4.mono e15
      have f5 := (f3.trans e14).trans e15
      have hb : (errs.map fun d => n == d) = (List.range 21).map fun j => decide (j = m) := by
        rw [← marks_eq m hm, List.getD_eq_getElem?_getD, hn]
        rfl
      refine Evl.s_if (b := false) (et_neB (bs := (List.range 21).map fun j => decide (j = m)) (by rw [← hb]; exact el_marks hn' er5 (Evl.ev_var rfl)) (el_same (f5 _ _ hq) (by rw [rq.length]; rfl))) (fun z => by cases z) (fun _ H16 e16 => ?_)
      exact ⟨_, _, _, _, _, _, rfl, ((((e10.trans e11).trans e12).trans e13).trans e14).trans (e15.trans e16)⟩
    · rintro σ H9 ⟨x6, x7, x8, x9, x10, x11, x12, rfl, e9⟩
      exact ⟨_, _, _, _, _, _, _, _, _, _, rfl, pen8.mono e9 (by omega), e9 _ _ hsg8⟩
end
end K01

set_option maxHeartbeats 4000000
namespace K01
open PySem PySem.Spec PyProof.Rows L2 Tx
section
variable {P : Program} {w : World} {K : PySem.W.Frag} {h : Heap} {mg : Str → Option Value}
theorem ex_all (e : exB K = true) : SysIn K ∧ (∀ n ∈ errs, OexC K (He.ga K n) ∧ ExcC K (He.ga K n)) ∧ isB K = true := by
  obtain ⟨e1, e2⟩ := He.ba e
  obtain ⟨e3, e4⟩ := He.ba e1
  refine ⟨?_, fun n hn => ?_, e2⟩
  · unfold sysB at e3
    cases z : K.lookup sysModules with
    | none =>
      rw [z] at e3
      cases e3
    | some o =>
      rw [z] at e3
      exact ⟨o, z, of_decide_eq_true e3⟩
  · obtain ⟨a, b⟩ := He.ba (List.all_eq_true.mp e4 n hn)
    exact ⟨HU.oexB_ok a, HU.excB_ok b⟩
theorem is_all (e : isB K = true) : ∀ c ∈ errs, PySem.W.kitOne K (.ref (He.ga K c)) (.type "ValueError") = some true ∧ PySem.W.kitOne K (.ref (He.ga K c)) (.ref (He.ga K "KeyingError")) = some true ∧ ∀ d ∈ errs, PySem.W.kitOne K (.ref (He.ga K c)) (.ref (He.ga K d)) = some (c == d) := fun c hc => by
  obtain ⟨e1, e2⟩ := He.ba (List.all_eq_true.mp e c hc)
  obtain ⟨e3, e4⟩ := He.ba e2
  exact ⟨of_decide_eq_true e1, of_decide_eq_true e3, fun d hd => of_decide_eq_true (List.all_eq_true.mp e4 d hd)⟩
theorem fn_of_meth {C f : Addr} {m : Str} (M : Meth K C m f) : PySem.W.findIn K (.ref C) m = some (some (.ref f)) ∧ PySem.W.typeIn K (.ref f) = some (.type "function") := ⟨M.at_, beq_iff_eq.mp M.fn⟩
theorem mk_BadSystem {base : Heap} (X : K.In h) (G : h.Ns mainGlobals mg) (c : He.SaysD fa fn K) (e : OexC K (He.ga K "BadSystem") ∧ ExcC K (He.ga K "BadSystem")) : EB1 P w K mg base "BadSystem" "part" := by
  obtain ⟨fd, FD⟩ := c.def_ 10 (d := d_BadSystem___init__) rfl
  have F : Fun K "__init__" "BadSystem.__init__" s_BadSystem___init__ (He.ma K (He.ga K "BadSystem") "__init__") fd := He5.fun_of FD
  obtain ⟨m1, m2⟩ := fn_of_meth (He.meth_ok (c.fact 40 (f := .meth "BadSystem" "__init__") rfl))
  have no1 : PySem.W.findIn K (.ref (He.ga K "BadSystem")) "part" = some none := He.noat_ok (c.fact 41 (f := .noat "BadSystem" "part") rfl)
  exact ⟨⟨He.glo_ok X G (c.fact 11 (f := .glo "BadSystem") rfl), e.1, e.2⟩, no1, _, fd, ⟨m1, m2, ok_BadSystem F e.1 no1⟩, kb_BadSystem F⟩
theorem mk_BadCut {base : Heap} (X : K.In h) (G : h.Ns mainGlobals mg) (c : He.SaysD fa fn K) (e : OexC K (He.ga K "BadCut") ∧ ExcC K (He.ga K "BadCut")) : EB1 P w K mg base "BadCut" "value" := by
  obtain ⟨fd, FD⟩ := c.def_ 11 (d := d_BadCut___init__) rfl
  have F : Fun K "__init__" "BadCut.__init__" s_BadCut___init__ (He.ma K (He.ga K "BadCut") "__init__") fd := He5.fun_of FD
  obtain ⟨m1, m2⟩ := fn_of_meth (He.meth_ok (c.fact 42 (f := .meth "BadCut" "__init__") rfl))
  have no1 : PySem.W.findIn K (.ref (He.ga K "BadCut")) "value" = some none := He.noat_ok (c.fact 43 (f := .noat "BadCut" "value") rfl)
  exact ⟨⟨He.glo_ok X G (c.fact 12 (f := .glo "BadCut") rfl), e.1, e.2⟩, no1, _, fd, ⟨m1, m2, ok_BadCut F e.1 no1⟩, kb_BadCut F⟩
theorem mk_BadKey {base : Heap} (X : K.In h) (G : h.Ns mainGlobals mg) (c : He.SaysD fa fn K) (e : OexC K (He.ga K "BadKey") ∧ ExcC K (He.ga K "BadKey")) : EB1 P w K mg base "BadKey" "value" := by
  obtain ⟨fd, FD⟩ := c.def_ 12 (d := d_BadKey___init__) rfl
  have F : Fun K "__init__" "BadKey.__init__" s_BadKey___init__ (He.ma K (He.ga K "BadKey") "__init__") fd := He5.fun_of FD
  obtain ⟨m1, m2⟩ := fn_of_meth (He.meth_ok (c.fact 44 (f := .meth "BadKey" "__init__") rfl))
  have no1 : PySem.W.findIn K (.ref (He.ga K "BadKey")) "value" = some none := He.noat_ok (c.fact 45 (f := .noat "BadKey" "value") rfl)
  exact ⟨⟨He.glo_ok X G (c.fact 13 (f := .glo "BadKey") rfl), e.1, e.2⟩, no1, _, fd, ⟨m1, m2, ok_BadKey F e.1 no1⟩, kb_BadKey F⟩
theorem mk_BadPlace {base : Heap} (X : K.In h) (G : h.Ns mainGlobals mg) (c : He.SaysD fa fn K) (e : OexC K (He.ga K "BadPlace") ∧ ExcC K (He.ga K "BadPlace")) : EB1 P w K mg base "BadPlace" "value" := by
  obtain ⟨fd, FD⟩ := c.def_ 13 (d := d_BadPlace___init__) rfl
  have F : Fun K "__init__" "BadPlace.__init__" s_BadPlace___init__ (He.ma K (He.ga K "BadPlace") "__init__") fd := He5.fun_of FD
  obtain ⟨m1, m2⟩ := fn_of_meth (He.meth_ok (c.fact 46 (f := .meth "BadPlace" "__init__") rfl))
  have no1 : PySem.W.findIn K (.ref (He.ga K "BadPlace")) "value" = some none := He.noat_ok (c.fact 47 (f := .noat "BadPlace" "value") rfl)
  exact ⟨⟨He.glo_ok X G (c.fact 14 (f := .glo "BadPlace") rfl), e.1, e.2⟩, no1, _, fd, ⟨m1, m2, ok_BadPlace F e.1 no1⟩, kb_BadPlace F⟩
theorem mk_BadName {base : Heap} (X : K.In h) (G : h.Ns mainGlobals mg) (c : He.SaysD fa fn K) (e : OexC K (He.ga K "BadName") ∧ ExcC K (He.ga K "BadName")) : EB1 P w K mg base "BadName" "value" := by
  obtain ⟨fd, FD⟩ := c.def_ 14 (d := d_BadName___init__) rfl
  have F : Fun K "__init__" "BadName.__init__" s_BadName___init__ (He.ma K (He.ga K "BadName") "__init__") fd := He5.fun_of FD
  obtain ⟨m1, m2⟩ := fn_of_meth (He.meth_ok (c.fact 48 (f := .meth "BadName" "__init__") rfl))
  have no1 : PySem.W.findIn K (.ref (He.ga K "BadName")) "value" = some none := He.noat_ok (c.fact 49 (f := .noat "BadName" "value") rfl)
  exact ⟨⟨He.glo_ok X G (c.fact 15 (f := .glo "BadName") rfl), e.1, e.2⟩, no1, _, fd, ⟨m1, m2, ok_BadName F e.1 no1⟩, kb_BadName F⟩
theorem mk_BadRule {base : Heap} (X : K.In h) (G : h.Ns mainGlobals mg) (c : He.SaysD fa fn K) (e : OexC K (He.ga K "BadRule") ∧ ExcC K (He.ga K "BadRule")) : EB1 P w K mg base "BadRule" "part" := by
  obtain ⟨fd, FD⟩ := c.def_ 15 (d := d_BadRule___init__) rfl
  have F : Fun K "__init__" "BadRule.__init__" s_BadRule___init__ (He.ma K (He.ga K "BadRule") "__init__") fd := He5.fun_of FD
  obtain ⟨m1, m2⟩ := fn_of_meth (He.meth_ok (c.fact 50 (f := .meth "BadRule" "__init__") rfl))
  have no1 : PySem.W.findIn K (.ref (He.ga K "BadRule")) "part" = some none := He.noat_ok (c.fact 51 (f := .noat "BadRule" "part") rfl)
  exact ⟨⟨He.glo_ok X G (c.fact 16 (f := .glo "BadRule") rfl), e.1, e.2⟩, no1, _, fd, ⟨m1, m2, ok_BadRule F e.1 no1⟩, kb_BadRule F⟩
theorem mk_BadKind {base : Heap} (X : K.In h) (G : h.Ns mainGlobals mg) (c : He.SaysD fa fn K) (e : OexC K (He.ga K "BadKind") ∧ ExcC K (He.ga K "BadKind")) : EB1 P w K mg base "BadKind" "part" := by
  obtain ⟨fd, FD⟩ := c.def_ 16 (d := d_BadKind___init__) rfl
  have F : Fun K "__init__" "BadKind.__init__" s_BadKind___init__ (He.ma K (He.ga K "BadKind") "__init__") fd := He5.fun_of FD
  obtain ⟨m1, m2⟩ := fn_of_meth (He.meth_ok (c.fact 52 (f := .meth "BadKind" "__init__") rfl))
  have no1 : PySem.W.findIn K (.ref (He.ga K "BadKind")) "part" = some none := He.noat_ok (c.fact 53 (f := .noat "BadKind" "part") rfl)
  exact ⟨⟨He.glo_ok X G (c.fact 17 (f := .glo "BadKind") rfl), e.1, e.2⟩, no1, _, fd, ⟨m1, m2, ok_BadKind F e.1 no1⟩, kb_BadKind F⟩
theorem mk_BadLengths {base : Heap} (X : K.In h) (G : h.Ns mainGlobals mg) (c : He.SaysD fa fn K) (e : OexC K (He.ga K "BadLengths") ∧ ExcC K (He.ga K "BadLengths")) : EB1 P w K mg base "BadLengths" "part" := by
  obtain ⟨fd, FD⟩ := c.def_ 17 (d := d_BadLengths___init__) rfl
  have F : Fun K "__init__" "BadLengths.__init__" s_BadLengths___init__ (He.ma K (He.ga K "BadLengths") "__init__") fd := He5.fun_of FD
  obtain ⟨m1, m2⟩ := fn_of_meth (He.meth_ok (c.fact 54 (f := .meth "BadLengths" "__init__") rfl))
  have no1 : PySem.W.findIn K (.ref (He.ga K "BadLengths")) "part" = some none := He.noat_ok (c.fact 55 (f := .noat "BadLengths" "part") rfl)
  exact ⟨⟨He.glo_ok X G (c.fact 18 (f := .glo "BadLengths") rfl), e.1, e.2⟩, no1, _, fd, ⟨m1, m2, ok_BadLengths F e.1 no1⟩, kb_BadLengths F⟩
theorem mk_BadCount {base : Heap} (X : K.In h) (G : h.Ns mainGlobals mg) (c : He.SaysD fa fn K) (e : OexC K (He.ga K "BadCount") ∧ ExcC K (He.ga K "BadCount")) : EB1 P w K mg base "BadCount" "value" := by
  obtain ⟨fd, FD⟩ := c.def_ 18 (d := d_BadCount___init__) rfl
  have F : Fun K "__init__" "BadCount.__init__" s_BadCount___init__ (He.ma K (He.ga K "BadCount") "__init__") fd := He5.fun_of FD
  obtain ⟨m1, m2⟩ := fn_of_meth (He.meth_ok (c.fact 56 (f := .meth "BadCount" "__init__") rfl))
  have no1 : PySem.W.findIn K (.ref (He.ga K "BadCount")) "value" = some none := He.noat_ok (c.fact 57 (f := .noat "BadCount" "value") rfl)
  exact ⟨⟨He.glo_ok X G (c.fact 19 (f := .glo "BadCount") rfl), e.1, e.2⟩, no1, _, fd, ⟨m1, m2, ok_BadCount F e.1 no1⟩, kb_BadCount F⟩
theorem mk_Unlike (X : K.In h) (G : h.Ns mainGlobals mg) (c : He.SaysD fa fn K) (e : OexC K (He.ga K "Unlike") ∧ ExcC K (He.ga K "Unlike")) : EB0 K mg "Unlike" :=
  ⟨⟨He.glo_ok X G (c.fact 20 (f := .glo "Unlike") rfl), e.1, e.2⟩, (He.exc_ok (c.fact 58 (f := .exc "Unlike") rfl)).1⟩
theorem mk_Outside {base : Heap} (X : K.In h) (G : h.Ns mainGlobals mg) (c : He.SaysD fa fn K) (e : OexC K (He.ga K "Outside") ∧ ExcC K (He.ga K "Outside")) : EB1 P w K mg base "Outside" "key" := by
  obtain ⟨fd, FD⟩ := c.def_ 19 (d := d_Outside___init__) rfl
  have F : Fun K "__init__" "Outside.__init__" s_Outside___init__ (He.ma K (He.ga K "Outside") "__init__") fd := He5.fun_of FD
  obtain ⟨m1, m2⟩ := fn_of_meth (He.meth_ok (c.fact 59 (f := .meth "Outside" "__init__") rfl))
  have no1 : PySem.W.findIn K (.ref (He.ga K "Outside")) "key" = some none := He.noat_ok (c.fact 60 (f := .noat "Outside" "key") rfl)
  exact ⟨⟨He.glo_ok X G (c.fact 21 (f := .glo "Outside") rfl), e.1, e.2⟩, no1, _, fd, ⟨m1, m2, ok_Outside F e.1 no1⟩, kb_Outside F⟩
theorem mk_Clash {base : Heap} (X : K.In h) (G : h.Ns mainGlobals mg) (c : He.SaysD fa fn K) (e : OexC K (He.ga K "Clash") ∧ ExcC K (He.ga K "Clash")) : EB1 P w K mg base "Clash" "place" := by
  obtain ⟨fd, FD⟩ := c.def_ 20 (d := d_Clash___init__) rfl
  have F : Fun K "__init__" "Clash.__init__" s_Clash___init__ (He.ma K (He.ga K "Clash") "__init__") fd := He5.fun_of FD
  obtain ⟨m1, m2⟩ := fn_of_meth (He.meth_ok (c.fact 61 (f := .meth "Clash" "__init__") rfl))
  have no1 : PySem.W.findIn K (.ref (He.ga K "Clash")) "place" = some none := He.noat_ok (c.fact 62 (f := .noat "Clash" "place") rfl)
  exact ⟨⟨He.glo_ok X G (c.fact 22 (f := .glo "Clash") rfl), e.1, e.2⟩, no1, _, fd, ⟨m1, m2, ok_Clash F e.1 no1⟩, kb_Clash F⟩
theorem mk_Crosses {base : Heap} (X : K.In h) (G : h.Ns mainGlobals mg) (c : He.SaysD fa fn K) (e : OexC K (He.ga K "Crosses") ∧ ExcC K (He.ga K "Crosses")) : EB1 P w K mg base "Crosses" "name" := by
  obtain ⟨fd, FD⟩ := c.def_ 21 (d := d_Crosses___init__) rfl
  have F : Fun K "__init__" "Crosses.__init__" s_Crosses___init__ (He.ma K (He.ga K "Crosses") "__init__") fd := He5.fun_of FD
  obtain ⟨m1, m2⟩ := fn_of_meth (He.meth_ok (c.fact 63 (f := .meth "Crosses" "__init__") rfl))
  have no1 : PySem.W.findIn K (.ref (He.ga K "Crosses")) "name" = some none := He.noat_ok (c.fact 64 (f := .noat "Crosses" "name") rfl)
  exact ⟨⟨He.glo_ok X G (c.fact 23 (f := .glo "Crosses") rfl), e.1, e.2⟩, no1, _, fd, ⟨m1, m2, ok_Crosses F e.1 no1⟩, kb_Crosses F⟩
theorem mk_Opens {base : Heap} (X : K.In h) (G : h.Ns mainGlobals mg) (c : He.SaysD fa fn K) (e : OexC K (He.ga K "Opens") ∧ ExcC K (He.ga K "Opens")) : EB2 P w K mg base "Opens" "key" "other" := by
  obtain ⟨fd, FD⟩ := c.def_ 22 (d := d_Opens___init__) rfl
  have F : Fun K "__init__" "Opens.__init__" s_Opens___init__ (He.ma K (He.ga K "Opens") "__init__") fd := He5.fun_of FD
  obtain ⟨m1, m2⟩ := fn_of_meth (He.meth_ok (c.fact 65 (f := .meth "Opens" "__init__") rfl))
  have no1 : PySem.W.findIn K (.ref (He.ga K "Opens")) "key" = some none := He.noat_ok (c.fact 66 (f := .noat "Opens" "key") rfl)
  have no2 : PySem.W.findIn K (.ref (He.ga K "Opens")) "other" = some none := He.noat_ok (c.fact 67 (f := .noat "Opens" "other") rfl)
  exact ⟨⟨He.glo_ok X G (c.fact 24 (f := .glo "Opens") rfl), e.1, e.2⟩, no1, no2, _, fd, ⟨m1, m2, ok_Opens F e.1 no1 no2⟩, kb_Opens F⟩
theorem mk_NotSafe {base : Heap} (X : K.In h) (G : h.Ns mainGlobals mg) (c : He.SaysD fa fn K) (e : OexC K (He.ga K "NotSafe") ∧ ExcC K (He.ga K "NotSafe")) : EB2 P w K mg base "NotSafe" "key" "other" := by
  obtain ⟨fd, FD⟩ := c.def_ 23 (d := d_NotSafe___init__) rfl
  have F : Fun K "__init__" "NotSafe.__init__" s_NotSafe___init__ (He.ma K (He.ga K "NotSafe") "__init__") fd := He5.fun_of FD
  obtain ⟨m1, m2⟩ := fn_of_meth (He.meth_ok (c.fact 68 (f := .meth "NotSafe" "__init__") rfl))
  have no1 : PySem.W.findIn K (.ref (He.ga K "NotSafe")) "key" = some none := He.noat_ok (c.fact 69 (f := .noat "NotSafe" "key") rfl)
  have no2 : PySem.W.findIn K (.ref (He.ga K "NotSafe")) "other" = some none := He.noat_ok (c.fact 70 (f := .noat "NotSafe" "other") rfl)
  exact ⟨⟨He.glo_ok X G (c.fact 25 (f := .glo "NotSafe") rfl), e.1, e.2⟩, no1, no2, _, fd, ⟨m1, m2, ok_NotSafe F e.1 no1 no2⟩, kb_NotSafe F⟩
theorem mk_NoDoor {base : Heap} (X : K.In h) (G : h.Ns mainGlobals mg) (c : He.SaysD fa fn K) (e : OexC K (He.ga K "NoDoor") ∧ ExcC K (He.ga K "NoDoor")) : EB1 P w K mg base "NoDoor" "name" := by
  obtain ⟨fd, FD⟩ := c.def_ 24 (d := d_NoDoor___init__) rfl
  have F : Fun K "__init__" "NoDoor.__init__" s_NoDoor___init__ (He.ma K (He.ga K "NoDoor") "__init__") fd := He5.fun_of FD
  obtain ⟨m1, m2⟩ := fn_of_meth (He.meth_ok (c.fact 71 (f := .meth "NoDoor" "__init__") rfl))
  have no1 : PySem.W.findIn K (.ref (He.ga K "NoDoor")) "name" = some none := He.noat_ok (c.fact 72 (f := .noat "NoDoor" "name") rfl)
  exact ⟨⟨He.glo_ok X G (c.fact 26 (f := .glo "NoDoor") rfl), e.1, e.2⟩, no1, _, fd, ⟨m1, m2, ok_NoDoor F e.1 no1⟩, kb_NoDoor F⟩
theorem mk_NoRule {base : Heap} (X : K.In h) (G : h.Ns mainGlobals mg) (c : He.SaysD fa fn K) (e : OexC K (He.ga K "NoRule") ∧ ExcC K (He.ga K "NoRule")) : EB1 P w K mg base "NoRule" "name" := by
  obtain ⟨fd, FD⟩ := c.def_ 25 (d := d_NoRule___init__) rfl
  have F : Fun K "__init__" "NoRule.__init__" s_NoRule___init__ (He.ma K (He.ga K "NoRule") "__init__") fd := He5.fun_of FD
  obtain ⟨m1, m2⟩ := fn_of_meth (He.meth_ok (c.fact 73 (f := .meth "NoRule" "__init__") rfl))
  have no1 : PySem.W.findIn K (.ref (He.ga K "NoRule")) "name" = some none := He.noat_ok (c.fact 74 (f := .noat "NoRule" "name") rfl)
  exact ⟨⟨He.glo_ok X G (c.fact 27 (f := .glo "NoRule") rfl), e.1, e.2⟩, no1, _, fd, ⟨m1, m2, ok_NoRule F e.1 no1⟩, kb_NoRule F⟩
theorem mk_NoKey {base : Heap} (X : K.In h) (G : h.Ns mainGlobals mg) (c : He.SaysD fa fn K) (e : OexC K (He.ga K "NoKey") ∧ ExcC K (He.ga K "NoKey")) : EB1 P w K mg base "NoKey" "value" := by
  obtain ⟨fd, FD⟩ := c.def_ 26 (d := d_NoKey___init__) rfl
  have F : Fun K "__init__" "NoKey.__init__" s_NoKey___init__ (He.ma K (He.ga K "NoKey") "__init__") fd := He5.fun_of FD
  obtain ⟨m1, m2⟩ := fn_of_meth (He.meth_ok (c.fact 75 (f := .meth "NoKey" "__init__") rfl))
  have no1 : PySem.W.findIn K (.ref (He.ga K "NoKey")) "value" = some none := He.noat_ok (c.fact 76 (f := .noat "NoKey" "value") rfl)
  exact ⟨⟨He.glo_ok X G (c.fact 28 (f := .glo "NoKey") rfl), e.1, e.2⟩, no1, _, fd, ⟨m1, m2, ok_NoKey F e.1 no1⟩, kb_NoKey F⟩
theorem mk_TooMany {base : Heap} (X : K.In h) (G : h.Ns mainGlobals mg) (c : He.SaysD fa fn K) (e : OexC K (He.ga K "TooMany") ∧ ExcC K (He.ga K "TooMany")) : EB2 P w K mg base "TooMany" "what" "most" := by
  obtain ⟨fd, FD⟩ := c.def_ 27 (d := d_TooMany___init__) rfl
  have F : Fun K "__init__" "TooMany.__init__" s_TooMany___init__ (He.ma K (He.ga K "TooMany") "__init__") fd := He5.fun_of FD
  obtain ⟨m1, m2⟩ := fn_of_meth (He.meth_ok (c.fact 77 (f := .meth "TooMany" "__init__") rfl))
  have no1 : PySem.W.findIn K (.ref (He.ga K "TooMany")) "what" = some none := He.noat_ok (c.fact 78 (f := .noat "TooMany" "what") rfl)
  have no2 : PySem.W.findIn K (.ref (He.ga K "TooMany")) "most" = some none := He.noat_ok (c.fact 79 (f := .noat "TooMany" "most") rfl)
  exact ⟨⟨He.glo_ok X G (c.fact 29 (f := .glo "TooMany") rfl), e.1, e.2⟩, no1, no2, _, fd, ⟨m1, m2, ok_TooMany F e.1 no1 no2⟩, kb_TooMany F⟩
theorem mk_Nothing (X : K.In h) (G : h.Ns mainGlobals mg) (c : He.SaysD fa fn K) (e : OexC K (He.ga K "Nothing") ∧ ExcC K (He.ga K "Nothing")) : EB0 K mg "Nothing" :=
  ⟨⟨He.glo_ok X G (c.fact 30 (f := .glo "Nothing") rfl), e.1, e.2⟩, (He.exc_ok (c.fact 80 (f := .exc "Nothing") rfl)).1⟩
theorem mk_BadText {base : Heap} (X : K.In h) (G : h.Ns mainGlobals mg) (c : He.SaysD fa fn K) (e : OexC K (He.ga K "BadText") ∧ ExcC K (He.ga K "BadText")) : EB2 P w K mg base "BadText" "line" "word" := by
  obtain ⟨fd, FD⟩ := c.def_ 28 (d := d_BadText___init__) rfl
  have F : Fun K "__init__" "BadText.__init__" s_BadText___init__ (He.ma K (He.ga K "BadText") "__init__") fd := He5.fun_of FD
  obtain ⟨m1, m2⟩ := fn_of_meth (He.meth_ok (c.fact 81 (f := .meth "BadText" "__init__") rfl))
  have no1 : PySem.W.findIn K (.ref (He.ga K "BadText")) "line" = some none := He.noat_ok (c.fact 82 (f := .noat "BadText" "line") rfl)
  have no2 : PySem.W.findIn K (.ref (He.ga K "BadText")) "word" = some none := He.noat_ok (c.fact 83 (f := .noat "BadText" "word") rfl)
  exact ⟨⟨He.glo_ok X G (c.fact 31 (f := .glo "BadText") rfl), e.1, e.2⟩, no1, no2, _, fd, ⟨m1, m2, ok_BadText F e.1 no1 no2⟩, kb_BadText F⟩
theorem mk_tc {base : Heap} (X : K.In h) (G : h.Ns mainGlobals mg) (c : He.SaysD fa fn K) (e : exB K = true) : TC P w K mg base := by
  obtain ⟨e1, e2, e3⟩ := ex_all e
  have e4 := is_all e3
  exact {
    tb := ⟨He.free_ok X G (c.fact 35 (f := .free "len") rfl), He.free_ok X G (c.fact 34 (f := .free "int") rfl), He.free_ok X G (c.fact 36 (f := .free "abs") rfl), He.free_ok X G (c.fact 33 (f := .free "list") rfl), He.free_ok X G (c.fact 38 (f := .free "range") rfl), He.free_ok X G (c.fact 39 (f := .free "repr") rfl), He.free_ok X G (c.fact 37 (f := .free "isinstance") rfl), He.free_ok X G (c.fact 32 (f := .free "ValueError") rfl)⟩
    sys := e1
    k := ⟨He.glo_ok X G (c.fact 10 (f := .glo "KeyingError") rfl)⟩
    c_BadSystem := mk_BadSystem X G c (e2 "BadSystem" (by decide +kernel))
    c_BadCut := mk_BadCut X G c (e2 "BadCut" (by decide +kernel))
    c_BadKey := mk_BadKey X G c (e2 "BadKey" (by decide +kernel))
    c_BadPlace := mk_BadPlace X G c (e2 "BadPlace" (by decide +kernel))
    c_BadName := mk_BadName X G c (e2 "BadName" (by decide +kernel))
    c_BadRule := mk_BadRule X G c (e2 "BadRule" (by decide +kernel))
    c_BadKind := mk_BadKind X G c (e2 "BadKind" (by decide +kernel))
    c_BadLengths := mk_BadLengths X G c (e2 "BadLengths" (by decide +kernel))
    c_BadCount := mk_BadCount X G c (e2 "BadCount" (by decide +kernel))
    c_Unlike := mk_Unlike X G c (e2 "Unlike" (by decide +kernel))
    c_Outside := mk_Outside X G c (e2 "Outside" (by decide +kernel))
    c_Clash := mk_Clash X G c (e2 "Clash" (by decide +kernel))
    c_Crosses := mk_Crosses X G c (e2 "Crosses" (by decide +kernel))
    c_Opens := mk_Opens X G c (e2 "Opens" (by decide +kernel))
    c_NotSafe := mk_NotSafe X G c (e2 "NotSafe" (by decide +kernel))
    c_NoDoor := mk_NoDoor X G c (e2 "NoDoor" (by decide +kernel))
    c_NoRule := mk_NoRule X G c (e2 "NoRule" (by decide +kernel))
    c_NoKey := mk_NoKey X G c (e2 "NoKey" (by decide +kernel))
    c_TooMany := mk_TooMany X G c (e2 "TooMany" (by decide +kernel))
    c_Nothing := mk_Nothing X G c (e2 "Nothing" (by decide +kernel))
    c_BadText := mk_BadText X G c (e2 "BadText" (by decide +kernel))
    isV := fun c hc => (e4 c hc).1
    isK := fun c hc => (e4 c hc).2.1
    isD := fun c hc => (e4 c hc).2.2
    ex := fun c hc => (e2 c hc).2 }
theorem mk_tf (X : K.In h) (G : h.Ns mainGlobals mg) (c : He.SaysD fa fn K) : TF K mg := by
  obtain ⟨fd_pen, F_pen⟩ := c.def_ 0 (d := d__law_pen) rfl
  obtain ⟨fd_draw, F_draw⟩ := c.def_ 1 (d := d__law_draw) rfl
  obtain ⟨fd_pick, F_pick⟩ := c.def_ 2 (d := d__law_pick) rfl
  obtain ⟨fd_place, F_place⟩ := c.def_ 3 (d := d__law_by_place) rfl
  obtain ⟨fd_name, F_name⟩ := c.def_ 4 (d := d__law_by_name) rfl
  obtain ⟨fd_sgn, F_sgn⟩ := c.def_ 5 (d := d__law_signs) rfl
  obtain ⟨fd_kept, F_kept⟩ := c.def_ 6 (d := d__law_kept) rfl
  obtain ⟨fd_marks, F_marks⟩ := c.def_ 7 (d := d__law_marks) rfl
  obtain ⟨fd_value, F_value⟩ := c.def_ 8 (d := d__law_value) rfl
  exact {
    pen := ⟨_, fd_pen, He.glo_ok X G (c.fact 0 (f := .glo "_law_pen") rfl), He5.fun_of F_pen⟩
    draw := ⟨_, fd_draw, He.glo_ok X G (c.fact 1 (f := .glo "_law_draw") rfl), He5.fun_of F_draw⟩
    pick := ⟨_, fd_pick, He.glo_ok X G (c.fact 2 (f := .glo "_law_pick") rfl), He5.fun_of F_pick⟩
    place := ⟨_, fd_place, He.glo_ok X G (c.fact 3 (f := .glo "_law_by_place") rfl), He5.fun_of F_place⟩
    name := ⟨_, fd_name, He.glo_ok X G (c.fact 4 (f := .glo "_law_by_name") rfl), He5.fun_of F_name⟩
    sgn := ⟨_, fd_sgn, He.glo_ok X G (c.fact 5 (f := .glo "_law_signs") rfl), He5.fun_of F_sgn⟩
    kept := ⟨_, fd_kept, He.glo_ok X G (c.fact 6 (f := .glo "_law_kept") rfl), He5.fun_of F_kept⟩
    marks := ⟨_, fd_marks, He.glo_ok X G (c.fact 7 (f := .glo "_law_marks") rfl), He5.fun_of F_marks⟩
    value := ⟨_, fd_value, He.glo_ok X G (c.fact 8 (f := .glo "_law_value") rfl), He5.fun_of F_value⟩ }
theorem facts {f : Addr} (X : K.In h) (G : h.Ns mainGlobals mg) (hfa : mg ("law" : Str) = some (.ref f)) (c : He.SaysD fa fn K) (e : exB K = true) :
    ∃ fd : FuncData, (∀ (s : Shared) (v : Value), BindsTo s fd ⟨[v], []⟩ [("_law_script", v)]) ∧ ∀ base : Heap, K.In base → base.Ns mainGlobals mg → FnG P w K mg base CX0 5 f fd ["_law_script"] (spLaw K) := by
  obtain ⟨fd, FL⟩ := c.def_ 9 (d := d_law) rfl
  have F : Fun K "law" "law" s_law (He.ga K "law") fd := He5.fun_of FL
  have ea := hfa.symm.trans (He.glo_ok X G (c.fact 9 (f := .glo "law") rfl))
  cases ea
  refine ⟨fd, fun s v => ?_, fun base _ _ => ok_law (mk_tc X G c e) (mk_tf X G c) F⟩
  obtain ⟨oc, od, kV, doc, pm, an, cdv, ct, osl, rfl, look, code⟩ := F.ex
  exact .of_eq rfl
end
end K01
open PySem PySem.W PySem.Calls PyProof.Rows
set_option maxRecDepth 100000 in
set_option maxHeartbeats 8000000 in
theorem PySem.Challenge.cw_tenantcuts_k01_errors_kept_holds : PySem.Challenge.rw_tenantcuts_k01_errors_kept.Holds := by
  w_on; o_law
  refine HandSHeadRun.head_any (r := OpenLaw.row PySem.Challenge.rw_tenantcuts_k01_errors_kept) (q := K01.qv) (H := K01.hk) (ob := K01.ob) (M := 8000) (loose := K01.loose) (d := HandSHeadRun.topDef (OpenLaw.row PySem.Challenge.rw_tenantcuts_k01_errors_kept).prog 33) (kwd := []) K01.ob_eq
    (by kernel_rfl) (fun s => by kernel_rfl) K01.run (by kernel_rfl) (by kernel_rfl) (by kernel_rfl) (by rfl) (by first | assumption | decide +kernel) (by decide +kernel) ⟨rfl, rfl, rfl, rfl, rfl, by decide +kernel⟩ ?hw ?hc
  case hw => w_witness2
  case hc =>
    refine Tx.walkG (l := PySem.Challenge.rw_tenantcuts_k01_errors_kept) (n := 63) (k := 5) (x := "_law_script") rfl (by decide) (by kernel_rfl) ⟨rfl, by decide, by decide⟩ ?F
    intro w mg fa h Y G hmg0
    obtain ⟨K, KX, c, e⟩ := Y
    have hmg : mg ("law" : PySem.Str) = some (.ref fa) := by
      have e1 : (HandSHeadRun.topDef (OpenLaw.row PySem.Challenge.rw_tenantcuts_k01_errors_kept).prog 33).name = ("law" : PySem.Str) := by kernel_rfl
      rw [← e1]
      exact hmg0
    obtain ⟨fd, hb, hF⟩ := K01.facts (P := (PySem.Challenge.rw_tenantcuts_k01_errors_kept).prog) (w := w) KX G hmg c e
    exact ⟨K, fd, K01.spLaw K, KX, hb, fun H a ns hl hS => ⟨a, ns, rfl, hS, hl, fun _ => rfl⟩, hF⟩
